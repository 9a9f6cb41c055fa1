import PyProof.Rows.All
import Wide.All
import OpenK.AllK
import Wide.FinOn
import HandS.ForMost
import HandS.Exc
import HandS.TryOnly
import HandS.ExcOwn
import HandS.WordsExc
import HandS.Wide
import HandS.Flow
import HandS.Lambda
import HandS.ExcInit
import HandS.Style
import HandS.Deep
import HandS.FStr
import HandS.StrMore
import PyProof.Rows.RuleB_pow
import PyProof.StrBlock2
import HandS.Zip
import HandS.CallSlots
import HandS.IsInst
import HandS.SortInts
import HandS.Text
import HandS.SetFor
import HandS.Strs
import HandS.SortKw
import KE.SortKeyHeap
import HandS.OwnEq
import HandS.OwnIter
import HandS.IterNext
import KE.KOpsOwn
import OpenK.KMeth
import OpenK.KOps
import HandS.IterVal
import HandS.Defaults
import HandS.ClsMeth
import HandS.HeadHook2
import HandS.HeadHook4
import HandS.HeadWalk
import HandS.HeadNt
import HandS.Head0
import HandS.Head1
import HandS.Head2
import HandS.Star
import HandS.MakeKwOnly
import HandS.Property
import HandS.ExcIs
import HandS.ExcField
import HandS.ExcValue
import HandS.Conv
import KE.GoesRev
import PySem.Challenge.RW_untilrows_k99_errors_made
set_option Elab.async false
set_option linter.all false
set_option maxRecDepth 100000
set_option maxHeartbeats 8000000
/-! D1: data values as trees, the world (store and abstract heap), what stands for what, steps between worlds -/
namespace DD
open PySem L2

/-- a value as data: tuples and settled lists are trees; ref n: the n-th object of the store; cls x: what the module's name x holds -/
inductive Dv where
  | non | bl (b : Bool) | int (i : Int) | str (s : Str) | tup (xs : List Dv) | lst (xs : List Dv) | scr (xs : List Int) | ref (n : Nat) | cls (x : Str) | ty (n : String)
  deriving Inhabited

/-- an object of the store: may be changed -/
inductive Ob where
  | lst (ds : List Dv)
  | dct (kvs : List (Key × Dv))
  | ins (C : Str) (fs : List (Str × Dv))
  /-- the table of the code objects of the def x (in the class C): its lambdas have the name q -/
  | tab (C : Option Str) (x : Str) (q : Str)
  /-- an exception's object: its class, where its dict stands -/
  | exn (C : Str) (d : Option Nat)
  /-- an exception's dict -/
  | xdc (fs : List (Str × Dv))
  deriving Inhabited

/-- what the law's text has at hand -/
structure Gx where
  K : PySem.W.Frag
  mg : Str → Option Value
  base : Heap
/-- objects that never change -/
inductive Fixed : HO → Prop
  | frz (o : Obj) (u : HO) : Fixed (.frz o u)
  | code (c : Addr) (q : Str) : Fixed (LamX.CodeO c q)

structure Wd where
  hot : Addr → Prop
  rho : List Addr
  mem : List Ob
  H : Hp
  /-- new lists that no name holds yet -/
  tmp : List Addr

/-- a list that does not change, wherever it stands -/
def ScrAt (K : PySem.W.Frag) (hot : Addr → Prop) (H : Hp) (a : Addr) (xs : List V) : Prop :=
  (H a = some (.lst xs) ∧ ¬ hot a) ∨ (∃ o, H a = some (.frz o (.lst xs))) ∨ ∃ (o : Obj) (its : Array Value) (n : Nat), K.lookup a = some o ∧ o.cls = .type "list" ∧ o.dict = none ∧ o.data = .seq its n ∧ its.size ≤ sizeLine ∧ Vals xs its.toList
theorem ScrAt.seq {K : PySem.W.Frag} {hot : Addr → Prop} {H : Hp} {a : Addr} {xs : List V} (h : ScrAt K hot H a xs) : SqL K H a xs := by
  rcases h with ⟨h, _⟩ | ⟨o, h⟩ | h
  · exact .inl (.inl h)
  · exact .inl (.inr ⟨o, h⟩)
  · exact .inr h
/-- v stands for d: hot, rho and H of the world -/
inductive RepX (G : Gx) (hot : Addr → Prop) (rho : List Addr) (H : Hp) : Bool → V → Dv → List V → List Dv → Prop
  | non : RepX G hot rho H false .non .non [] []
  | bl (b : Bool) : RepX G hot rho H false (.bl b) (.bl b) [] []
  | int (i : Int) : RepX G hot rho H false (.int i) (.int i) [] []
  | str (x : Str) : RepX G hot rho H false (.str x) (.str x) [] []
  | ty (n : String) : RepX G hot rho H false (.ty n) (.ty n) [] []
  | tup {a : Addr} {xs : List V} {ds : List Dv} : SqT G.K H a xs → RepX G hot rho H true .non .non xs ds → RepX G hot rho H false (.ref a) (.tup ds) [] []
  | lst {a : Addr} {xs : List V} {ds : List Dv} : H a = some (.lst xs) → ¬ hot a → RepX G hot rho H true .non .non xs ds → RepX G hot rho H false (.ref a) (.lst ds) [] []
  | scr {a : Addr} {ns : List Int} : ScrAt G.K hot H a (ns.map V.int) → RepX G hot rho H false (.ref a) (.scr ns) [] []
  | ref {a : Addr} {n : Nat} : rho[n]? = some a → RepX G hot rho H false (.ref a) (.ref n) [] []
  | cls {a : Addr} {x : Str} : G.mg x = some (.ref a) → RepX G hot rho H false (.ref a) (.cls x) [] []
  | nil : RepX G hot rho H true .non .non [] []
  | cons {v : V} {d : Dv} {vs : List V} {ds : List Dv} : RepX G hot rho H false v d [] [] → RepX G hot rho H true .non .non vs ds → RepX G hot rho H true .non .non (v :: vs) (d :: ds)

abbrev Rep (G : Gx) (W : Wd) (v : V) (d : Dv) : Prop := RepX G W.hot W.rho W.H false v d [] []
abbrev RepL (G : Gx) (W : Wd) (vs : List V) (ds : List Dv) : Prop := RepX G W.hot W.rho W.H true .non .non vs ds

/-- from one heap to a later one, for what is not hot -/
structure Fz (hot : Addr → Prop) (rho : List Addr) (H : Hp) (hot' : Addr → Prop) (rho' : List Addr) (H' : Hp) : Prop where
  cold : ∀ a o, ¬ hot a → H a = some o → H' a = some o
  cool : ∀ a o, ¬ hot a → H a = some o → ¬ hot' a
  tups : ∀ a xs, H a = some (.tup xs) → H' a = some (.tup xs)
  frzs : ∀ a (o : HO) (_ : Fixed o), H a = some o → H' a = some o
  pre : ∀ (n : Nat) a, rho[n]? = some a → rho'[n]? = some a
structure Stp (W W' : Wd) : Prop where
  fz : Fz W.hot W.rho W.H W'.hot W'.rho W'.H
  tmp : ∀ (n : Nat) a, W.tmp[n]? = some a → W'.tmp[n]? = some a

theorem Fz.seqT {G : Gx} {hot hot' : Addr → Prop} {rho rho' : List Addr} {H H' : Hp} (z : Fz hot rho H hot' rho' H') {a : Addr} {xs : List V} (h : SqT G.K H a xs) : SqT G.K H' a xs := by
  rcases h with (h | ⟨o, h⟩) | h
  · exact .inl (.inl (z.tups _ _ h))
  · exact .inl (.inr ⟨o, z.frzs _ _ (.frz _ _) h⟩)
  · exact .inr h
theorem Fz.scr {K : PySem.W.Frag} {hot hot' : Addr → Prop} {rho rho' : List Addr} {H H' : Hp} (z : Fz hot rho H hot' rho' H') {a : Addr} {xs : List V} (h : ScrAt K hot H a xs) : ScrAt K hot' H' a xs := by
  rcases h with ⟨h, n⟩ | ⟨o, h⟩ | h
  · exact .inl ⟨z.cold _ _ n h, z.cool _ _ n h⟩
  · exact .inr (.inl ⟨o, z.frzs _ _ (.frz _ _) h⟩)
  · exact .inr (.inr h)
theorem RepX.mono {G : Gx} {hot hot' : Addr → Prop} {rho rho' : List Addr} {H H' : Hp} (z : Fz hot rho H hot' rho' H') {b : Bool} {v : V} {d : Dv} {vs : List V} {ds : List Dv} (h : RepX G hot rho H b v d vs ds) :
    RepX G hot' rho' H' b v d vs ds := by
  induction h with
  | non => exact .non
  | bl b => exact .bl b
  | int i => exact .int i
  | str x => exact .str x
  | ty n => exact .ty n
  | tup h _ ih => exact .tup (z.seqT h) ih
  | lst h hh _ ih => exact .lst (z.cold _ _ hh h) (z.cool _ _ hh h) ih
  | scr h => exact .scr (z.scr h)
  | ref h => exact .ref (z.pre _ _ h)
  | cls h => exact .cls h
  | nil => exact .nil
  | cons _ _ ih1 ih2 => exact .cons ih1 ih2

theorem Fz.refl {hot : Addr → Prop} {rho : List Addr} {H : Hp} : Fz hot rho H hot rho H := ⟨fun _ _ _ h => h, fun _ _ h _ => h, fun _ _ h => h, fun _ _ _ h => h, fun _ _ h => h⟩
theorem Fz.trans {hot hot' hot'' : Addr → Prop} {rho rho' rho'' : List Addr} {H H' H'' : Hp} (z : Fz hot rho H hot' rho' H') (y : Fz hot' rho' H' hot'' rho'' H'') : Fz hot rho H hot'' rho'' H'' :=
  ⟨fun a o h e => y.cold a o (z.cool a o h e) (z.cold a o h e), fun a o h e => y.cool a o (z.cool a o h e) (z.cold a o h e), fun a xs h => y.tups a xs (z.tups a xs h), fun a o u h => y.frzs a o u (z.frzs a o u h), fun n a h => y.pre n a (z.pre n a h)⟩
/-- the heap grows -/
theorem Fz.grow {hot : Addr → Prop} {rho : List Addr} {H H' : Hp} (s : Same H H') : Fz hot rho H hot rho H' := ⟨fun a o _ h => s a o h, fun _ _ h _ => h, fun a xs h => s a _ h, fun a o u h => s a _ h, fun _ _ h => h⟩
theorem Stp.refl {W : Wd} : Stp W W := ⟨.refl, fun _ _ h => h⟩
theorem Stp.trans {W W1 W2 : Wd} (z : Stp W W1) (y : Stp W1 W2) : Stp W W2 := ⟨z.fz.trans y.fz, fun n a h => y.tmp n a (z.tmp n a h)⟩
theorem Same.upd {H : Hp} {p : Addr} {o : HO} (h : H p = none) : Same H (upd H p o) := fun b o' e => by rw [upd_ne (ne_of_none e h)]; exact e

/-- a field list / dict, place by place -/
inductive RepF {κ : Type} (R : V → Dv → Prop) : List (κ × V) → List (κ × Dv) → Prop
  | nil : RepF R [] []
  | cons {k : κ} {v : V} {d : Dv} {l : List (κ × V)} {m : List (κ × Dv)} : R v d → RepF R l m → RepF R ((k, v) :: l) ((k, d) :: m)
theorem RepF.mono {κ : Type} {R R' : V → Dv → Prop} (h : ∀ v d, R v d → R' v d) : ∀ {l : List (κ × V)} {m : List (κ × Dv)}, RepF R l m → RepF R' l m
  | _, _, .nil => .nil
  | _, _, .cons a r => .cons (h _ _ a) (RepF.mono h r)

/-- f is the def x (in the class C) -/
def HomeFn (G : Gx) (x : Str) (f : Addr) : Option Str → Prop
  | none => G.mg x = some (.ref f)
  | some C => ∃ Ca, G.mg C = some (.ref Ca) ∧ PySem.W.findIn G.K (.ref Ca) x = some (some (.ref f))
/-- at a stands the table of x's code objects -/
structure TabRep (G : Gx) (H : Hp) (C : Option Str) (x q : Str) (a : Addr) : Prop where
  of : ∃ f oc od fd osl c, HomeFn G x f C ∧ G.K.lookup f = some ⟨oc, od, .func fd, osl⟩ ∧ fd.code = .ref c ∧ LamX.TabB G.base G.mg c a
  tab : LamX.TabS H a q
theorem tabS_fz {hot hot' : Addr → Prop} {rho rho' : List Addr} {H H' : Hp} (z : Fz hot rho H hot' rho' H') {a : Addr} {q : Str} (h : LamX.TabS H a q) (e : ∀ u, H a = some u → H' a = some u) : LamX.TabS H' a q := by
  obtain ⟨ps, h1, h2, h3⟩ := h
  refine ⟨ps, e _ h1, h2, fun pos cv hc => ?_⟩
  obtain ⟨c, h4, h5⟩ := h3 pos cv hc
  exact ⟨c, h4, z.frzs _ _ (.code _ _) h5⟩
theorem TabRep.fz {G : Gx} {hot hot' : Addr → Prop} {rho rho' : List Addr} {H H' : Hp} (z : Fz hot rho H hot' rho' H') {a : Addr} {C : Option Str} {x q : Str} (h : TabRep G H C x q a) (e : ∀ u, H a = some u → H' a = some u) : TabRep G H' C x q a := ⟨h.of, tabS_fz z h.tab e⟩
/-- the object at a is o -/
def ObRep (G : Gx) (W : Wd) (a : Addr) : Ob → Prop
  | .lst ds => ∃ xs, W.H a = some (.lst xs) ∧ RepL G W xs ds
  | .dct kvs => ∃ l, W.H a = some (.dK l) ∧ RepF (Rep G W) l kvs
  | .ins C fs => ∃ Ca dx l, G.mg C = some (.ref Ca) ∧ W.H a = some (.ins Ca dx l) ∧ RepF (Rep G W) l fs
  | .tab C x q => TabRep G W.H C x q a
  | .exn C none => ∃ Ca, G.mg C = some (.ref Ca) ∧ W.H a = some (exo a Ca none)
  | .exn C (some k) => ∃ Ca dx, G.mg C = some (.ref Ca) ∧ W.rho[k]? = some dx ∧ W.H a = some (exo a Ca (some dx))
  | .xdc fs => ∃ l, W.H a = some (exd a l) ∧ RepF (Rep G W) l fs

structure WOk (G : Gx) (W : Wd) : Prop where
  nd : W.rho.Nodup
  len : W.rho.length = W.mem.length
  hotd : ∀ a, W.hot a → ∃ o, W.H a = some o
  hotr : ∀ a ∈ W.rho, W.hot a
  cells : ∀ (n : Nat) o a, W.mem[n]? = some o → W.rho[n]? = some a → ObRep G W a o

/-- one heap to the next in a called def: only the store's objects change -/
structure CStp (W W' : Wd) : Prop where
  keep : ∀ a o, W.H a = some o → a ∉ W.rho → W'.H a = some o
  tups : ∀ a xs, W.H a = some (.tup xs) → W'.H a = some (.tup xs)
  frzs : ∀ a (o : HO) (_ : Fixed o), W.H a = some o → W'.H a = some o
  pre : ∀ (n : Nat) a, W.rho[n]? = some a → W'.rho[n]? = some a
  hotB : ∀ a, W.hot a → W'.hot a
  hotN : ∀ a, W'.hot a → W.hot a ∨ W.H a = none
  rhoN : ∀ a ∈ W'.rho, a ∈ W.rho ∨ W.H a = none
  dom : ∀ a o, W.H a = some o → ∃ o', W'.H a = some o'
theorem CStp.refl (W : Wd) : CStp W W := ⟨fun _ _ h _ => h, fun _ _ h => h, fun _ _ _ h => h, fun _ _ h => h, fun _ h => h, fun _ h => .inl h, fun _ h => .inl h, fun _ o h => ⟨o, h⟩⟩
theorem CStp.fz {G : Gx} {W W' : Wd} (ok : WOk G W) (s : CStp W W') : Fz W.hot W.rho W.H W'.hot W'.rho W'.H :=
  ⟨fun a o h e => s.keep a o e fun z => h (ok.hotr a z), fun a o h e z => (s.hotN a z).elim h fun q => (by rw [q] at e; cases e), s.tups, s.frzs, s.pre⟩
theorem CStp.trans {W W1 W2 : Wd} (s : CStp W W1) (t : CStp W1 W2) : CStp W W2 := by
  have back : ∀ a, W1.H a = none → W.H a = none := fun a h => by
    cases e : W.H a with
    | none => rfl
    | some o => obtain ⟨o', q⟩ := s.dom a o e; rw [h] at q; cases q
  refine ⟨fun a o h n => t.keep a o (s.keep a o h n) fun z => (s.rhoN a z).elim n fun q => (by rw [q] at h; cases h), fun a xs h => t.tups a xs (s.tups a xs h), fun a o u h => t.frzs a o u (s.frzs a o u h), fun n a h => t.pre n a (s.pre n a h), fun a h => t.hotB a (s.hotB a h), fun a h => ?_, fun a h => ?_, fun a o h => ?_⟩
  · rcases t.hotN a h with q | q
    · exact s.hotN a q
    · exact .inr (back a q)
  · rcases t.rhoN a h with q | q
    · exact s.rhoN a q
    · exact .inr (back a q)
  · obtain ⟨o', q⟩ := s.dom a o h
    exact t.dom a o' q

/-! ### lists of values -/
theorem RepL.length {G : Gx} {hot : Addr → Prop} {rho : List Addr} {H : Hp} : ∀ {vs : List V} {ds : List Dv}, RepX G hot rho H true .non .non vs ds → vs.length = ds.length
  | _, _, .nil => rfl
  | _, _, .cons _ t => by rw [List.length_cons, List.length_cons, RepL.length t]
theorem RepL.get {G : Gx} {hot : Addr → Prop} {rho : List Addr} {H : Hp} : ∀ {vs : List V} {ds : List Dv} {i : Nat} {v : V}, RepX G hot rho H true .non .non vs ds → vs[i]? = some v → ∃ d, ds[i]? = some d ∧ RepX G hot rho H false v d [] []
  | _, _, _, _, .nil, e => by simp at e
  | _, _, 0, _, .cons r _, e => by simp at e; subst e; exact ⟨_, rfl, r⟩
  | _, _, i + 1, v, .cons _ t, e => by
    obtain ⟨d, h1, h2⟩ := RepL.get (i := i) (v := v) t (by simpa using e)
    exact ⟨d, by simpa using h1, h2⟩
theorem RepL.getD {G : Gx} {hot : Addr → Prop} {rho : List Addr} {H : Hp} : ∀ {vs : List V} {ds : List Dv} {i : Nat} {d : Dv}, RepX G hot rho H true .non .non vs ds → ds[i]? = some d → ∃ v, vs[i]? = some v ∧ RepX G hot rho H false v d [] []
  | _, _, _, _, .nil, e => by simp at e
  | _, _, 0, _, .cons r _, e => by simp at e; subst e; exact ⟨_, rfl, r⟩
  | _, _, i + 1, v, .cons _ t, e => by
    obtain ⟨d, h1, h2⟩ := RepL.getD (i := i) (d := v) t (by simpa using e)
    exact ⟨d, by simpa using h1, h2⟩
theorem RepL.append {G : Gx} {hot : Addr → Prop} {rho : List Addr} {H : Hp} : ∀ {vs ws : List V} {ds es : List Dv}, RepX G hot rho H true .non .non vs ds → RepX G hot rho H true .non .non ws es → RepX G hot rho H true .non .non (vs ++ ws) (ds ++ es)
  | _, _, _, _, .nil, s => s
  | _, _, _, _, .cons r t, s => .cons r (RepL.append t s)
theorem RepL.take {G : Gx} {hot : Addr → Prop} {rho : List Addr} {H : Hp} : ∀ {vs : List V} {ds : List Dv} (n : Nat), RepX G hot rho H true .non .non vs ds → RepX G hot rho H true .non .non (vs.take n) (ds.take n)
  | _, _, 0, _ => .nil
  | _, _, _ + 1, .nil => .nil
  | _, _, n + 1, .cons r t => .cons r (RepL.take n t)
theorem RepL.drop {G : Gx} {hot : Addr → Prop} {rho : List Addr} {H : Hp} : ∀ {vs : List V} {ds : List Dv} (n : Nat), RepX G hot rho H true .non .non vs ds → RepX G hot rho H true .non .non (vs.drop n) (ds.drop n)
  | _, _, 0, r => r
  | _, _, _ + 1, .nil => .nil
  | _, _, n + 1, .cons _ t => RepL.drop n t
theorem RepL.set {G : Gx} {hot : Addr → Prop} {rho : List Addr} {H : Hp} {v : V} {d : Dv} (r : RepX G hot rho H false v d [] []) : ∀ {vs : List V} {ds : List Dv} (n : Nat), RepX G hot rho H true .non .non vs ds → RepX G hot rho H true .non .non (vs.set n v) (ds.set n d)
  | _, _, _, .nil => .nil
  | _, _, 0, .cons _ t => .cons r t
  | _, _, n + 1, .cons q t => .cons q (RepL.set r n t)
theorem RepL.eraseIdx {G : Gx} {hot : Addr → Prop} {rho : List Addr} {H : Hp} : ∀ {vs : List V} {ds : List Dv} (n : Nat), RepX G hot rho H true .non .non vs ds → RepX G hot rho H true .non .non (vs.eraseIdx n) (ds.eraseIdx n)
  | _, _, _, .nil => .nil
  | _, _, 0, .cons _ t => t
  | _, _, n + 1, .cons q t => .cons q (RepL.eraseIdx n t)
theorem RepL.dropLast {G : Gx} {hot : Addr → Prop} {rho : List Addr} {H : Hp} {vs : List V} {ds : List Dv} (h : RepX G hot rho H true .non .non vs ds) : RepX G hot rho H true .non .non vs.dropLast ds.dropLast := by
  rw [List.dropLast_eq_take, List.dropLast_eq_take, RepL.length h]
  exact RepL.take _ h
theorem RepL.flatten {G : Gx} {hot : Addr → Prop} {rho : List Addr} {H : Hp} {vs : List V} {ds : List Dv} (h : RepX G hot rho H true .non .non vs ds) : ∀ n : Nat, RepX G hot rho H true .non .non (List.replicate n vs).flatten (List.replicate n ds).flatten
  | 0 => .nil
  | n + 1 => by
    rw [List.replicate_succ, List.replicate_succ, List.flatten_cons, List.flatten_cons]
    exact RepL.append h (RepL.flatten h n)
theorem RepL.reverse {G : Gx} {hot : Addr → Prop} {rho : List Addr} {H : Hp} : ∀ {vs : List V} {ds : List Dv}, RepX G hot rho H true .non .non vs ds → RepX G hot rho H true .non .non vs.reverse ds.reverse
  | _, _, .nil => .nil
  | _, _, .cons r t => by
    rw [List.reverse_cons, List.reverse_cons]
    exact RepL.append (RepL.reverse t) (.cons r .nil)

/-! ### what a value can be -/
theorem Rep.int_inv {G : Gx} {hot : Addr → Prop} {rho : List Addr} {H : Hp} {v : V} {i : Int} (h : RepX G hot rho H false v (.int i) [] []) : v = .int i := by cases h; rfl
theorem Rep.bl_inv {G : Gx} {hot : Addr → Prop} {rho : List Addr} {H : Hp} {v : V} {i : Bool} (h : RepX G hot rho H false v (.bl i) [] []) : v = .bl i := by cases h; rfl
theorem Rep.str_inv {G : Gx} {hot : Addr → Prop} {rho : List Addr} {H : Hp} {v : V} {i : Str} (h : RepX G hot rho H false v (.str i) [] []) : v = .str i := by cases h; rfl
theorem Rep.non_inv {G : Gx} {hot : Addr → Prop} {rho : List Addr} {H : Hp} {v : V} (h : RepX G hot rho H false v .non [] []) : v = .non := by cases h; rfl

/-! ### a def's locals -/
inductive Sl where
  | no
  | val (d : Dv)
  | own (ds : List Dv)
  deriving Inhabited
structure Ls where
  loc : List Sl
  mem : List Ob
  tmp : List (List Dv)
  deriving Inhabited

/-- an error in flight: its class's name, its fields -/
structure Ex where
  cls : Str
  fs : List (Str × Dv)
  deriving Inhabited
inductive R (α : Type) where
  | ok (a : α) (s : Ls)
  | err (x : Ex) (s : Ls)
  | stuck
  deriving Inhabited

structure Emb (G : Gx) (B W : Wd) (σ : St) (s : Ls) : Prop where
  wok : WOk G W
  mem : s.mem = W.mem
  len : s.loc.length = σ.length
  val : ∀ (i : Nat) d, s.loc[i]? = some (.val d) → ∃ v, σ[i]? = some (some v) ∧ Rep G W v d
  own : ∀ (i : Nat) ds, s.loc[i]? = some (.own ds) → ∃ a xs, σ[i]? = some (some (.ref a)) ∧ W.H a = some (.lst xs) ∧ RepL G W xs ds ∧ W.hot a ∧ a ∉ W.rho ∧ B.H a = none
  ownI : ∀ (i j : Nat) ds es a, s.loc[i]? = some (.own ds) → s.loc[j]? = some (.own es) → σ[i]? = some (some (.ref a)) → σ[j]? = some (some (.ref a)) → i = j
  stp : CStp B W
  bhot : ∀ a, B.hot a → ∃ o, B.H a = some o
  tmpL : s.tmp.length = W.tmp.length
  tmpO : ∀ (n : Nat) ds a, s.tmp[n]? = some ds → W.tmp[n]? = some a → (∃ xs, W.H a = some (.lst xs) ∧ RepL G W xs ds) ∧ W.hot a ∧ a ∉ W.rho ∧ B.H a = none
  tmpN : W.tmp.Nodup
  tmpS : ∀ (i : Nat) ds a, s.loc[i]? = some (.own ds) → σ[i]? = some (some (.ref a)) → a ∉ W.tmp

/-- what an error is: its class and its own dict in the heap -/
def ExRep (G : Gx) (W : Wd) (c : Value) (dx : Option Addr) (x : Ex) : Prop :=
  ∃ Ca, G.mg x.cls = some (.ref Ca) ∧ c = .ref Ca ∧ ((x.fs = [] ∧ dx = none) ∨ ∃ d l, dx = some d ∧ W.H d = some (.xd l) ∧ RepF (Rep G W) l x.fs)

/-- what is wanted behind an expression: rep tells what the result stands for -/
def Post {X α : Type} (G : Gx) (B W : Wd) (wish : WX) (σ : St) (rep : St → Wd → X → α → Prop) (Q : X → Hp → Prop) : R α → Prop
  | .ok d s => ∀ v W', Emb G B W' σ s → Stp W W' → rep σ W' v d → Q v W'.H
  | .err x s => ∀ c dx W', Emb G B W' σ s → Stp W W' → ExRep G W' c dx x → wish c dx σ W'.H
  | .stuck => False
/-- t does what d says -/
def Sim {X α : Type} (G : Gx) (rep : St → Wd → X → α → Prop) (wish : WX) (t : St → Hp → (X → Hp → Prop) → Prop) (d : Ls → R α) : Prop := ∀ B W σ s Q, Emb G B W σ s → Post G B W wish σ rep Q (d s) → t σ W.H Q

def R.bind {α β : Type} (r : R α) (f : α → Ls → R β) : R β := match r with
  | .ok a s => f a s
  | .err x s => .err x s
  | .stuck => .stuck
@[simp] theorem R.bind_ok {α β : Type} (a : α) (s : Ls) (f : α → Ls → R β) : (R.ok a s).bind f = f a s := rfl
@[simp] theorem R.bind_err {α β : Type} (x : Ex) (s : Ls) (f : α → Ls → R β) : (R.err x s : R α).bind f = .err x s := rfl
@[simp] theorem R.bind_stuck {α β : Type} (f : α → Ls → R β) : (R.stuck : R α).bind f = .stuck := rfl

theorem Post.step {X α : Type} {G : Gx} {B W W1 : Wd} {wish : WX} {σ : St} {rep : St → Wd → X → α → Prop} {Q : X → Hp → Prop} {r : R α} (h : Post G B W wish σ rep Q r) (z : Stp W W1) : Post G B W1 wish σ rep Q r := by
  cases r with
  | ok d s => exact fun v W' e y => h v W' e (z.trans y)
  | err x s => exact fun c dx W' e y => h c dx W' e (z.trans y)
  | stuck => exact h
/-- one after another -/
theorem Post.bind {X Y α β : Type} {G : Gx} {B W : Wd} {wish : WX} {σ : St} {rep : St → Wd → X → α → Prop} {rep2 : St → Wd → Y → β → Prop} {Q : Y → Hp → Prop} {Q1 : X → Hp → Prop} {r : R α} {f : α → Ls → R β} (h : Post G B W wish σ rep2 Q (r.bind f))
    (k : ∀ a s v W', r = .ok a s → Emb G B W' σ s → Stp W W' → rep σ W' v a → Post G B W' wish σ rep2 Q (f a s) → Q1 v W'.H) : Post G B W wish σ rep Q1 r := by
  cases r with
  | ok a s => exact fun v W' e z rp => k a s v W' rfl e z rp (h.step z)
  | err x s => exact h
  | stuck => exact h
def R.of {α : Type} (o : Option α) (s : Ls) : R α := match o with
  | some a => .ok a s
  | none => .stuck
@[simp] theorem R.of_some {α : Type} (a : α) (s : Ls) : R.of (some a) s = .ok a s := rfl
@[simp] theorem R.of_none {α : Type} (s : Ls) : (R.of none s : R α) = .stuck := rfl
theorem Post.of {X α : Type} {G : Gx} {B W : Wd} {wish : WX} {σ : St} {rep : St → Wd → X → α → Prop} {Q : X → Hp → Prop} {o : Option α} {s : Ls} (h : Post G B W wish σ rep Q (R.of o s)) : ∃ a, o = some a ∧ Post G B W wish σ rep Q (.ok a s) := by
  cases o with
  | none => exact h.elim
  | some a => exact ⟨a, rfl, h⟩

/-! ### the world grows by a settled thing -/
abbrev Wd.gr (W : Wd) (H' : Hp) : Wd := { W with H := H' }
theorem Stp.grow {W : Wd} {H' : Hp} (s : Same W.H H') : Stp W (W.gr H') := ⟨Fz.grow s, fun _ _ h => h⟩
theorem RepF.rep {G : Gx} {W W' : Wd} (z : Stp W W') {κ : Type} {l : List (κ × V)} {m : List (κ × Dv)} (h : RepF (Rep G W) l m) : RepF (Rep G W') l m := RepF.mono (fun _ _ r => RepX.mono z.fz r) h
theorem ObRep.grow {G : Gx} {W : Wd} {H' : Hp} (s : Same W.H H') {a : Addr} : ∀ {o : Ob}, ObRep G W a o → ObRep G (W.gr H') a o
  | .lst _, ⟨xs, h, r⟩ => ⟨xs, s _ _ h, RepX.mono (Fz.grow s) r⟩
  | .dct _, ⟨l, h, r⟩ => ⟨l, s _ _ h, RepF.rep (W := W) (W' := W.gr H') (Stp.grow s) r⟩
  | .ins _ _, ⟨Ca, dx, l, g, h, r⟩ => ⟨Ca, dx, l, g, s _ _ h, RepF.rep (W := W) (W' := W.gr H') (Stp.grow s) r⟩
  | .tab _ _ _, h => TabRep.fz (hot := W.hot) (rho := W.rho) (Fz.grow s) h fun u e => s _ _ e
  | .exn _ none, ⟨Ca, g, h⟩ => ⟨Ca, g, s _ _ h⟩
  | .exn _ (some _), ⟨Ca, dx, g, r, h⟩ => ⟨Ca, dx, g, r, s _ _ h⟩
  | .xdc _, ⟨l, h, r⟩ => ⟨l, s _ _ h, RepF.rep (W := W) (W' := W.gr H') (Stp.grow s) r⟩
theorem WOk.grow {G : Gx} {W : Wd} {H' : Hp} (ok : WOk G W) (s : Same W.H H') : WOk G (W.gr H') :=
  ⟨ok.nd, ok.len, fun a h => let ⟨o, e⟩ := ok.hotd a h; ⟨o, s _ _ e⟩, ok.hotr, fun n o a h1 h2 => (ok.cells n o a h1 h2).grow s⟩
theorem CStp.grow {B W : Wd} {H' : Hp} (c : CStp B W) (s : Same W.H H') : CStp B (W.gr H') :=
  ⟨fun a o h n => s _ _ (c.keep a o h n), fun a xs h => s _ _ (c.tups a xs h), fun a o u h => s _ _ (c.frzs a o u h), c.pre, c.hotB, c.hotN, c.rhoN, fun a o h => let ⟨o', e⟩ := c.dom a o h; ⟨o', s _ _ e⟩⟩
theorem Emb.grow {G : Gx} {B W : Wd} {σ : St} {s : Ls} {H' : Hp} (e : Emb G B W σ s) (g : Same W.H H') : Emb G B (W.gr H') σ s where
  wok := e.wok.grow g
  mem := e.mem
  len := e.len
  bhot := e.bhot
  val := fun i d h => let ⟨v, h1, h2⟩ := e.val i d h; ⟨v, h1, RepX.mono (Fz.grow g) h2⟩
  own := fun i ds h => let ⟨a, xs, h1, h2, h3, h4, h5, h6⟩ := e.own i ds h; ⟨a, xs, h1, g _ _ h2, RepX.mono (Fz.grow g) h3, h4, h5, h6⟩
  ownI := e.ownI
  stp := e.stp.grow g
  tmpL := e.tmpL
  tmpO := fun n ds a h1 h2 => let ⟨⟨xs, q1, q2⟩, q3, q4, q5⟩ := e.tmpO n ds a h1 h2; ⟨⟨xs, g _ _ q1, RepX.mono (Fz.grow g) q2⟩, q3, q4, q5⟩
  tmpN := e.tmpN
  tmpS := e.tmpS
/-- what is handed on of a settled result -/
theorem Post.fresh {G : Gx} {B W : Wd} {wish : WX} {σ : St} {Q : VK} {d : Dv} {s : Ls} (h : Post G B W wish σ (fun _ W v x => Rep G W v x) Q (.ok d s)) (e : Emb G B W σ s) {u : V} {H' : Hp} (g : Same W.H H') (r : RepX G W.hot W.rho H' false u d [] []) : Q u H' :=
  h u (W.gr H') (e.grow g) (Stp.grow g) r
end DD

/-! D2: expressions: names, constants, operators -/
namespace DD
open PySem L2
abbrev gx (X : Cx) : Gx := ⟨X.K, X.mg, X.base⟩
abbrev rV (G : Gx) : St → Wd → V → Dv → Prop := fun _ W v x => Rep G W v x
/-- an operand that is only looked at -/
inductive Rd where
  | dv (x : Dv)
  | slot (i : Nat)
def rR (G : Gx) : St → Wd → V → Rd → Prop := fun σ W v r => match r with
  | .dv x => Rep G W v x
  | .slot i => σ[i]? = some (some v)
abbrev rL (G : Gx) : St → Wd → List V → List Dv → Prop := fun _ W vs ds => RepL G W vs ds
abbrev rB : St → Wd → Bool → Bool → Prop := fun _ _ a b => a = b
theorem rR.mono {G : Gx} {σ : St} {W W' : Wd} {v : V} {r : Rd} (h : rR G σ W v r) (z : Stp W W') : rR G σ W' v r := by
  cases r with
  | dv x => exact RepX.mono z.fz h
  | slot i => exact h

/-- a value as it is looked at: a list may be one that still changes -/
def View (G : Gx) (W : Wd) (v : V) : Dv → Prop
  | .lst ds => ∃ a xs, v = .ref a ∧ W.H a = some (.lst xs) ∧ RepL G W xs ds
  | x => Rep G W v x
def lookDv (m : List Ob) : Dv → Dv
  | .ref n => match m[n]? with
    | some (.lst ds) => .lst ds
    | _ => .ref n
  | x => x
def Rd.look (r : Rd) (s : Ls) : Option Dv := match r with
  | .dv x => some (lookDv s.mem x)
  | .slot i => match s.loc[i]? with
    | some (.own ds) => some (.lst ds)
    | some (.val x) => some (lookDv s.mem x)
    | _ => none
theorem View.of {G : Gx} {W : Wd} {v : V} {x : Dv} (h : Rep G W v x) : View G W v x := by
  cases x with
  | lst ds => cases h with
    | lst h1 _ h3 => exact ⟨_, _, rfl, h1, h3⟩
  | _ => exact h
theorem lookDv_view {G : Gx} {W : Wd} (ok : WOk G W) {v : V} {x : Dv} (h : Rep G W v x) : View G W v (lookDv W.mem x) := by
  cases x with
  | ref n =>
    show View G W v (match W.mem[n]? with | some (.lst ds) => .lst ds | _ => .ref n)
    cases h with
    | ref hr =>
      cases e : W.mem[n]? with
      | none => exact .ref hr
      | some o =>
        cases o with
        | lst ds => obtain ⟨xs, h1, h2⟩ := ok.cells n _ _ e hr; exact ⟨_, xs, rfl, h1, h2⟩
        | dct kvs => exact .ref hr
        | ins C fs => exact .ref hr
        | tab C x q => exact .ref hr
        | exn C d => exact .ref hr
        | xdc fs => exact .ref hr
  | lst ds => exact View.of h
  | _ => exact h
theorem look_view {G : Gx} {B W : Wd} {σ : St} {s : Ls} (e : Emb G B W σ s) {v : V} {r : Rd} (h : rR G σ W v r) {x : Dv} (hl : r.look s = some x) : View G W v x := by
  cases r with
  | dv y =>
    have : lookDv s.mem y = x := by simpa [Rd.look] using hl
    rw [← this, e.mem]
    exact lookDv_view e.wok h
  | slot i =>
    have h' : σ[i]? = some (some v) := h
    simp only [Rd.look] at hl
    split at hl
    · rename_i ds hs
      cases hl
      obtain ⟨a, xs, h1, h2, h3, _⟩ := e.own i ds hs
      rw [h'] at h1
      injection h1 with h1; injection h1 with h1; subst h1
      exact ⟨a, xs, rfl, h2, h3⟩
    · rename_i y hs
      cases hl
      obtain ⟨w, h1, h2⟩ := e.val i y hs
      rw [h'] at h1
      injection h1 with h1; injection h1 with h1; subst h1
      rw [e.mem]
      exact lookDv_view e.wok h2
    · cases hl

structure DE (X : Cx) (wish : WX) (e : Expr) (te : TE) (d : Ls → R Dv) : Prop where
  pe : PE X e te
  sim : Sim (gx X) (rV (gx X)) wish te d
structure DR (X : Cx) (wish : WX) (e : Expr) (te : TE) (d : Ls → R Rd) : Prop where
  pe : PE X e te
  sim : Sim (gx X) (rR (gx X)) wish te d
structure DA (X : Cx) (wish : WX) (es : List Expr) (ta : TA) (d : Ls → R (List Dv)) : Prop where
  pa : PA X es ta
  sim : Sim (gx X) (rL (gx X)) wish ta d
structure DT (X : Cx) (wish : WX) (e : Expr) (tt : TT) (d : Ls → R Bool) : Prop where
  pt : PT X e tt
  sim : Sim (gx X) rB wish tt d

/-! ### names -/
def dVar (i : Nat) : Ls → R Dv := fun s => match s.loc[i]? with
  | some (.val x) => .ok x s
  | some (.own ds) => .ok (.lst ds) { s with loc := s.loc.set i (.val (.lst ds)) }
  | _ => .stuck
/-- an own list is settled -/
theorem Emb.settle {G : Gx} {B W : Wd} {σ : St} {s : Ls} (e : Emb G B W σ s) {i : Nat} {ds : List Dv} (h : s.loc[i]? = some (.own ds)) :
    ∃ v W', σ[i]? = some (some v) ∧ W'.H = W.H ∧ Emb G B W' σ { s with loc := s.loc.set i (.val (.lst ds)) } ∧ Stp W W' ∧ Rep G W' v (.lst ds) := by
  obtain ⟨a, xs, h1, h2, h3, h4, h5, h6⟩ := e.own i ds h
  have hlt : i < s.loc.length := (List.getElem?_eq_some_iff.mp h).1
  have z : Fz W.hot W.rho W.H (fun b => W.hot b ∧ b ≠ a) W.rho W.H := ⟨fun _ _ _ h => h, fun b o hn _ hh => hn hh.1, fun _ _ h => h, fun _ _ _ h => h, fun _ _ h => h⟩
  have rp : RepX G (fun b => W.hot b ∧ b ≠ a) W.rho W.H false (.ref a) (.lst ds) [] [] := .lst h2 (fun hh => hh.2 rfl) (RepX.mono z h3)
  refine ⟨.ref a, { W with hot := fun b => W.hot b ∧ b ≠ a }, h1, rfl, ?_, ⟨z, fun _ _ h => h⟩, rp⟩
  refine ⟨⟨e.wok.nd, e.wok.len, fun b hb => e.wok.hotd b hb.1, fun b hb => ⟨e.wok.hotr b hb, fun q => h5 (q ▸ hb)⟩, fun n o b g1 g2 => ?_⟩, e.mem, ?_, fun j d hj => ?_, fun j es hj => ?_, fun j k es fs b g1 g2 g3 g4 => ?_, ?_, e.bhot, e.tmpL, fun n es b g1 g2 => ?_, e.tmpN, fun j es b g1 g2 => ?_⟩
  · have q := e.wok.cells n o b g1 g2
    cases o with
    | lst es => obtain ⟨ys, q1, q2⟩ := q; exact ⟨ys, q1, RepX.mono z q2⟩
    | dct kvs => obtain ⟨l, q1, q2⟩ := q; exact ⟨l, q1, RepF.mono (fun _ _ r => RepX.mono z r) q2⟩
    | ins C fs => obtain ⟨Ca, dx, l, q0, q1, q2⟩ := q; exact ⟨Ca, dx, l, q0, q1, RepF.mono (fun _ _ r => RepX.mono z r) q2⟩
    | tab C x q0 => exact q
    | exn C d => cases d <;> exact q
    | xdc fs => obtain ⟨l, q1, q2⟩ := q; exact ⟨l, q1, RepF.mono (fun _ _ r => RepX.mono z r) q2⟩
  · rw [List.length_set]; exact e.len
  · by_cases hji : i = j
    · subst hji
      rw [List.getElem?_set_self hlt] at hj
      cases hj
      exact ⟨_, h1, rp⟩
    · rw [List.getElem?_set_ne hji] at hj
      obtain ⟨v, q1, q2⟩ := e.val j d hj
      exact ⟨v, q1, RepX.mono z q2⟩
  · by_cases hji : i = j
    · subst hji
      rw [List.getElem?_set_self hlt] at hj
      cases hj
    · rw [List.getElem?_set_ne hji] at hj
      obtain ⟨b, ys, q1, q2, q3, q4, q5, q6⟩ := e.own j es hj
      refine ⟨b, ys, q1, q2, RepX.mono z q3, ⟨q4, fun hb => hji ?_⟩, q5, q6⟩
      subst hb
      exact e.ownI i j ds es _ h hj h1 q1
  · have nj : ∀ (k : Nat) es, (s.loc.set i (Sl.val (.lst ds)))[k]? = some (Sl.own es) → s.loc[k]? = some (Sl.own es) := fun k es hk => by
      by_cases hki : i = k
      · subst hki
        rw [List.getElem?_set_self hlt] at hk
        cases hk
      · rw [List.getElem?_set_ne hki] at hk
        exact hk
    exact e.ownI j k es fs b (nj _ _ g1) (nj _ _ g2) g3 g4
  · have c := e.stp
    refine ⟨c.keep, c.tups, c.frzs, c.pre, fun b hb => ⟨c.hotB b hb, fun q => ?_⟩, fun b hb => c.hotN b hb.1, c.rhoN, c.dom⟩
    subst q
    obtain ⟨o, q⟩ := e.bhot _ hb
    rw [h6] at q; cases q
  · obtain ⟨⟨ys, q1, q2⟩, q3, q4, q5⟩ := e.tmpO n es b g1 g2
    exact ⟨⟨ys, q1, RepX.mono z q2⟩, ⟨q3, fun hb => e.tmpS i ds a h h1 (hb ▸ List.mem_of_getElem? g2)⟩, q4, q5⟩
  · refine e.tmpS j es b ?_ g2
    by_cases hji : i = j
    · subst hji
      rw [List.getElem?_set_self hlt] at g1
      cases g1
    · rw [List.getElem?_set_ne hji] at g1
      exact g1
theorem sim_var (G : Gx) (wish : WX) (i : Nat) : Sim G (rV G) wish (tVar i) (dVar i) := by
  intro B W σ s Q e h
  unfold dVar at h
  split at h
  · rename_i x hs
    obtain ⟨v, h1, h2⟩ := e.val i x hs
    exact ⟨v, h1, h v W e Stp.refl h2⟩
  · rename_i ds hs
    obtain ⟨v, W', h1, hH, e', z, r⟩ := e.settle hs
    refine ⟨v, h1, ?_⟩
    rw [← hH]
    exact h v W' e' z r
  · exact h.elim
def dSlot (i : Nat) : Ls → R Rd := fun s => match s.loc[i]? with
  | some (.val _) => .ok (.slot i) s
  | some (.own _) => .ok (.slot i) s
  | _ => .stuck
theorem sim_slot (G : Gx) (wish : WX) (i : Nat) : Sim G (rR G) wish (tVar i) (dSlot i) := by
  intro B W σ s Q e h
  unfold dSlot at h
  split at h
  · rename_i x hs
    obtain ⟨v, h1, h2⟩ := e.val i x hs
    exact ⟨v, h1, h v W e Stp.refl h1⟩
  · rename_i ds hs
    obtain ⟨a, xs, h1, _⟩ := e.own i ds hs
    exact ⟨_, h1, h (.ref a) W e Stp.refl h1⟩
  · exact h.elim
section
variable {X : Cx} {wish : WX}
theorem de_var (i : Nat) {x : Str} {pos : Pos} (hN : X.N[i]? = some x := by rfl) (hv : Vis X.env.scope x := by first | exact Or.inl rfl | exact Or.inr (Or.inl rfl) | exact Or.inr (Or.inr rfl)) (hd : (x == ("__debug__" : Str)) = false := by decide)
    (hcd : (x == ("__classdict__" : Str)) = false := by decide) : DE X wish (.Name x pos) (tVar i) (dVar i) := ⟨pe_var hN hv hd hcd, sim_var _ _ i⟩
theorem dr_var (i : Nat) {x : Str} {pos : Pos} (hN : X.N[i]? = some x := by rfl) (hv : Vis X.env.scope x := by first | exact Or.inl rfl | exact Or.inr (Or.inl rfl) | exact Or.inr (Or.inr rfl)) (hd : (x == ("__debug__" : Str)) = false := by decide)
    (hcd : (x == ("__classdict__" : Str)) = false := by decide) : DR X wish (.Name x pos) (tVar i) (dSlot i) := ⟨pe_var hN hv hd hcd, sim_slot _ _ i⟩
def dDv (d : Ls → R Dv) : Ls → R Rd := fun s => (d s).bind fun x s => .ok (.dv x) s
theorem sim_dv {G : Gx} {te : TE} {d : Ls → R Dv} (h : Sim G (rV G) wish te d) : Sim G (rR G) wish te (dDv d) := fun B W σ s Q e p =>
  h B W σ s Q e (Post.bind (rep := rV G) (rep2 := rR G) p fun x s1 v W1 _ e1 z1 r1 p1 => p1 v W1 e1 Stp.refl r1)
theorem dr_of {e : Expr} {te : TE} {d : Ls → R Dv} (h : DE X wish e te d) : DR X wish e te (dDv d) := ⟨h.pe, sim_dv h.sim⟩
end

/-! ### constants -/
def dC (x : Dv) : Ls → R Dv := fun s => .ok x s
theorem sim_c {G : Gx} {wish : WX} {v : V} {x : Dv} (h : ∀ W, Rep G W v x) : Sim G (rV G) wish (tC v) (dC x) := fun B W σ s Q e p => p v W e Stp.refl (h W)
section
variable {X : Cx} {wish : WX}
theorem de_int {i j pos} : DE X wish (.Constant (.int i) j pos) (tC (.int i)) (dC (.int i)) := ⟨pe_int, sim_c fun _ => .int i⟩
theorem de_bl {b j pos} : DE X wish (.Constant (.bool b) j pos) (tC (.bl b)) (dC (.bl b)) := ⟨pe_bl, sim_c fun _ => .bl b⟩
theorem de_non {j pos} : DE X wish (.Constant .none j pos) (tC .non) (dC .non) := ⟨pe_non, sim_c fun _ => .non⟩
theorem de_str {x j pos} : DE X wish (.Constant (.str x) j pos) (tC (.str x)) (dC (.str x)) := ⟨pe_str, sim_c fun _ => .str x⟩
end

/-! ### operators -/
/-- an operator's rule does what f says -/
def Pure2 (G : Gx) (r : R2) (f : Dv → Dv → Option Dv) : Prop := ∀ (W : Wd) v w x y Q z, WOk G W → View G W v x → View G W w y → f x y = some z → (∀ u H', Same W.H H' → RepX G W.hot W.rho H' false u z [] [] → Q u H') → r v w W.H Q
def dOp (f : Dv → Dv → Option Dv) (da db : Ls → R Rd) : Ls → R Dv := fun s => (da s).bind fun x s => (db s).bind fun y s => R.of ((x.look s).bind fun a => (y.look s).bind fun b => f a b) s
theorem bind2 {α β γ : Type} {a : Option α} {b : Option β} {f : α → β → Option γ} {z : γ} (h : (a.bind fun x => b.bind fun y => f x y) = some z) : ∃ x y, a = some x ∧ b = some y ∧ f x y = some z := by
  cases a with
  | none => cases h
  | some x =>
    cases b with
    | none => cases h
    | some y => exact ⟨x, y, rfl, rfl, h⟩
theorem sim_op {G : Gx} {wish : WX} {r : R2} {f : Dv → Dv → Option Dv} {ta tb : TE} {da db : Ls → R Rd} (hp : Pure2 G r f) (ha : Sim G (rR G) wish ta da) (hb : Sim G (rR G) wish tb db) : Sim G (rV G) wish (tOp r ta tb) (dOp f da db) := fun B W σ s Q e p =>
  ha B W σ s _ e (Post.bind (rep := rR G) (rep2 := rV G) p fun x s1 v W1 _ e1 z1 r1 p1 =>
    hb B W1 σ s1 _ e1 (Post.bind (rep := rR G) (rep2 := rV G) p1 fun y s2 w W2 _ e2 z2 r2 p2 => by
      obtain ⟨c, hc, p3⟩ := Post.of p2
      obtain ⟨a, b, h1, h2, h3⟩ := bind2 hc
      exact hp W2 v w a b Q c e2.wok (look_view e2 (r1.mono z2) h1) (look_view e2 r2 h2) h3 fun u H' g rp => Post.fresh p3 e2 g rp))
section
variable {X : Cx} {wish : WX} {ta tb : TE} {da db : Ls → R Rd} {a b : Expr} {pos : Pos} {r : R2} {f : Dv → Dv → Option Dv}
theorem de_op {op : Operator} (ho : OpR X (binaryOp op) r) (hp : Pure2 (gx X) r f) (ha : DR X wish a ta da) (hb : DR X wish b tb db) : DE X wish (.BinOp a op b pos) (tOp r ta tb) (dOp f da db) := ⟨pe_op ho ha.pe hb.pe, sim_op hp ha.sim hb.sim⟩
theorem de_cmp {op : CmpOp} (ho : OpR X (compareOp op) r) (hp : Pure2 (gx X) r f) (ha : DR X wish a ta da) (hb : DR X wish b tb db) (hm : behindInMarks op b = false) : DE X wish (.Compare a [op] [b] pos) (tOp r ta tb) (dOp f da db) :=
  ⟨pe_cmpR ho ha.pe hb.pe hm, sim_op hp ha.sim hb.sim⟩
end
/-- one rule or another -/
theorem OpR.or {X : Cx} {f : Value → Value → Sem Value} {r r' : R2} (h : OpR X f r) (h' : OpR X f r') : OpR X f (fun x y H Q => r x y H Q ∨ r' x y H Q) := fun pins s σ H x y v u Q I rx ry q =>
  q.elim (h pins s σ H x y v u Q I rx ry) (h' pins s σ H x y v u Q I rx ry)

/-! unary -/
def Pure1 (G : Gx) (r : V → Hp → VK → Prop) (f : Dv → Option Dv) : Prop := ∀ (W : Wd) v x Q z, WOk G W → View G W v x → f x = some z → (∀ u H', Same W.H H' → RepX G W.hot W.rho H' false u z [] [] → Q u H') → r v W.H Q
def dUn (f : Dv → Option Dv) (da : Ls → R Rd) : Ls → R Dv := fun s => (da s).bind fun x s => R.of ((x.look s).bind f) s
theorem bind1 {α γ : Type} {a : Option α} {f : α → Option γ} {z : γ} (h : a.bind f = some z) : ∃ x, a = some x ∧ f x = some z := by
  cases a with
  | none => cases h
  | some x => exact ⟨x, rfl, h⟩
theorem sim_un {G : Gx} {wish : WX} {r : V → Hp → VK → Prop} {f : Dv → Option Dv} {ta : TE} {da : Ls → R Rd} (hp : Pure1 G r f) (ha : Sim G (rR G) wish ta da) : Sim G (rV G) wish (tUn r ta) (dUn f da) := fun B W σ s Q e p =>
  ha B W σ s _ e (Post.bind (rep := rR G) (rep2 := rV G) p fun x s1 v W1 _ e1 z1 r1 p1 => by
    obtain ⟨c, hc, p3⟩ := Post.of p1
    obtain ⟨a, h1, h2⟩ := bind1 hc
    exact hp W1 v a Q c e1.wok (look_view e1 r1 h1) h2 fun u H' g rp => Post.fresh p3 e1 g rp)
theorem de_un {X : Cx} {wish : WX} {ta : TE} {da : Ls → R Rd} {a : Expr} {pos : Pos} {op : UnaryOp} {r : V → Hp → VK → Prop} {f : Dv → Option Dv} (ho : UnR X (unaryOp op) r) (hp : Pure1 (gx X) r f) (ha : DR X wish a ta da) : DE X wish (.UnaryOp op a pos) (tUn r ta) (dUn f da) :=
  ⟨pe_un ho ha.pe, sim_un hp ha.sim⟩
end DD

/-! D3: the operators, one by one -/
namespace DD
open PySem L2 PyProof.Rows
theorem new_lst {G : Gx} {W : Wd} (ok : WOk G W) {p : Addr} {xs : List V} {ds : List Dv} (hp : W.H p = none) (r : RepL G W xs ds) : RepX G W.hot W.rho (upd W.H p (.lst xs)) false (.ref p) (.lst ds) [] [] :=
  .lst upd_same (fun h => by obtain ⟨o, e⟩ := ok.hotd p h; rw [hp] at e; cases e) (RepX.mono (Fz.grow (Same.upd hp)) r)
theorem new_tup {G : Gx} {W : Wd} {p : Addr} {xs : List V} {ds : List Dv} (hp : W.H p = none) (r : RepL G W xs ds) : RepX G W.hot W.rho (upd W.H p (.tup xs)) false (.ref p) (.tup ds) [] [] :=
  .tup (SqT.of upd_same) (RepX.mono (Fz.grow (Same.upd hp)) r)
def szOk (n : Nat) : Bool := decide (n ≤ 16777216)
theorem szOk.le {n : Nat} (h : szOk n = true) : n ≤ sizeLine := by rw [sizeLine_eq]; exact of_decide_eq_true h
def guard' (b : Bool) (x : Dv) : Option Dv := if b = true then some x else none
theorem guard'_some {b : Bool} {x z : Dv} (h : guard' b x = some z) : b = true ∧ x = z := by
  unfold guard' at h
  cases b with
  | true => exact ⟨rfl, by simpa using h⟩
  | false => simp at h
@[simp] theorem guard'_true (x : Dv) : guard' true x = some x := rfl

/-! + -/
def fAdd : Dv → Dv → Option Dv
  | .int i, .int j => some (.int (i + j))
  | .str x, .str y => guard' (szOk (x.length + y.length)) (.str (x ++ y))
  | .lst xs, .lst ys => guard' (szOk (xs.length + ys.length)) (.lst (xs ++ ys))
  | .tup xs, .tup ys => guard' (szOk (xs.length + ys.length) && !xs.isEmpty) (.tup (xs ++ ys))
  | _, _ => none
def rAddStr : R2 := fun x y H Q => ∃ i j, x = .str i ∧ y = .str j ∧ i.length + j.length ≤ sizeLine ∧ Q (.str (i ++ j)) H
def rAddA (K : PySem.W.Frag) : R2 := fun x y H Q => rI0 (fun i j => .int (i + j)) x y H Q ∨ rAddStr x y H Q ∨ rCat x y H Q ∨ rCatT K x y H Q
theorem op_addA {X : Cx} : OpR X (binaryOp .Add) (rAddA X.K) := OpR.or op_add (OpR.or op_add_str (OpR.or op_cat op_catT))
theorem pure_add {G : Gx} : Pure2 G (rAddA G.K) fAdd := by
  intro W v w x y Q z ok hv hw hf k
  cases x <;> cases y <;> first | (simp [fAdd] at hf; done) | skip
  · cases hv; cases hw
    cases hf
    exact .inl ⟨_, _, rfl, rfl, k _ _ (Same.refl _) (.int _)⟩
  · cases hv; cases hw
    obtain ⟨h1, rfl⟩ := guard'_some hf
    exact .inr (.inl ⟨_, _, rfl, rfl, szOk.le h1, k _ _ (Same.refl _) (.str _)⟩)
  · cases hv with
    | @tup a xs ds a1 a2 => cases hw with
      | @tup b ys es b1 b2 =>
        obtain ⟨h1, rfl⟩ := guard'_some hf
        rw [Bool.and_eq_true] at h1
        have hne : xs ≠ [] := fun e => by
          subst e
          cases a2
          exact absurd h1.2 (by simp)
        refine .inr (.inr (.inr ⟨_, _, _, _, rfl, rfl, a1, b1, hne, by rw [RepL.length a2, RepL.length b2]; exact szOk.le h1.1, fun e => ?_, fun e p hp => ?_⟩))
        · subst e
          cases b2
          rw [List.append_nil] at k
          exact k _ _ (Same.refl _) (.tup a1 a2)
        · exact k _ _ (Same.upd hp) (new_tup hp (RepL.append a2 b2))
  · obtain ⟨a, xs, rfl, a1, a2⟩ := hv
    obtain ⟨b, ys, rfl, b1, b2⟩ := hw
    obtain ⟨h1, rfl⟩ := guard'_some hf
    exact .inr (.inr (.inl ⟨_, _, _, _, rfl, rfl, a1, b1, by rw [RepL.length a2, RepL.length b2]; exact szOk.le h1, fun p hp => k _ _ (Same.upd hp) (new_lst ok hp (RepL.append a2 b2))⟩))
/-! - -/
def fSub : Dv → Dv → Option Dv
  | .int i, .int j => some (.int (i - j))
  | _, _ => none
theorem pure_sub {G : Gx} : Pure2 G (rI0 fun i j => .int (i - j)) fSub := by
  intro W v w x y Q z ok hv hw hf k
  cases x <;> cases y <;> first | (simp [fSub] at hf; done) | skip
  cases hv; cases hw
  cases hf
  exact ⟨_, _, rfl, rfl, k _ _ (Same.refl _) (.int _)⟩
/-! * -/
def mulOk (i j : Int) : Bool := decide (i.natAbs.log2 + j.natAbs.log2 < 1000000)
def repOk (n : Nat) (k : Int) : Bool := decide (-(2 ^ 63) ≤ k ∧ k < 2 ^ 63 ∧ n * k.toNat ≤ 16777216)
def fMul : Dv → Dv → Option Dv
  | .int i, .int j => guard' (mulOk i j) (.int (i * j))
  | .lst xs, .int k => guard' (repOk xs.length k) (.lst (List.replicate k.toNat xs).flatten)
  | .str x, .int k => guard' (repOk x.length k) (.str (Txt.mul x k))
  | _, _ => none
def rMulStr : R2 := fun x y H Q => ∃ i k, x = .str i ∧ y = .int k ∧ MulOk i k ∧ Q (.str (Txt.mul i k)) H
theorem op_mul_str {X : Cx} : OpR X (binaryOp .Mult) rMulStr := by
  intro pins s σ H x y v u Q I rx ry h
  obtain ⟨i, k, rfl, rfl, hok, q⟩ := h
  obtain ⟨t, rfl⟩ := rx
  obtain ⟨t', rfl⟩ := ry
  exact PySem.SB.mul hok fun t'' tk => ⟨.str _, H, I.tok _, ⟨_, rfl⟩, q⟩
theorem mulOk_rep {x : Str} {k : Int} (q1 : -(2 ^ 63) ≤ k) (q2 : k < 2 ^ 63) (q3 : x.length * k.toNat ≤ 16777216) : MulOk x k := by
  refine ⟨?_, fun h1 _ => ?_, fun h1 _ => ?_⟩
  · have e1 : decide (k < -2 ^ 63) = false := decide_eq_false (by omega)
    have e2 : decide (k ≥ 2 ^ 63) = false := decide_eq_false (by omega)
    rw [e1, e2]; rfl
  · intro hg
    have hk : 0 < k := by omega
    have e : ((x.length * k.toNat : Nat) : Int) = (x.length : Int) * k := by rw [Int.natCast_mul, Int.toNat_of_nonneg (by omega)]
    have h2 : (x.length : Int) * k ≤ 16777216 := by
      have h5 := Int.ofNat_le.mpr q3
      rw [e] at h5
      exact h5
    have h3 : (x.length : Int) ≤ (2 ^ 63 - 1) / k := Int.le_ediv_of_mul_le hk (by omega)
    omega
  · unfold Builtin.Str.tooLong
    exact decide_eq_false (by have := sizeLine_eq; omega)
def rMulA : R2 := fun x y H Q => rI CMulW (fun i j => .int (i * j)) x y H Q ∨ rMulStr x y H Q ∨ rRep x y H Q
theorem op_mulA {X : Cx} : OpR X (binaryOp .Mult) rMulA := OpR.or op_mulW (OpR.or op_mul_str op_rep)
theorem pure_mul {G : Gx} : Pure2 G rMulA fMul := by
  intro W v w x y Q z ok hv hw hf k
  cases x <;> cases y <;> first | (simp [fMul] at hf; done) | skip
  · cases hv; cases hw
    obtain ⟨h1, rfl⟩ := guard'_some hf
    exact .inl ⟨_, _, rfl, rfl, (show CMulW _ _ from of_decide_eq_true (p := _ < 1000000) h1), k _ _ (Same.refl _) (.int _)⟩
  · cases hv; cases hw
    obtain ⟨h1, rfl⟩ := guard'_some hf
    obtain ⟨q1, q2, q3⟩ := of_decide_eq_true h1
    exact .inr (.inl ⟨_, _, rfl, rfl, mulOk_rep q1 q2 q3, k _ _ (Same.refl _) (.str _)⟩)
  · obtain ⟨a, xs, rfl, a1, a2⟩ := hv
    cases hw
    obtain ⟨h1, rfl⟩ := guard'_some hf
    obtain ⟨q1, q2, q3⟩ := of_decide_eq_true h1
    exact .inr (.inr ⟨_, _, _, rfl, rfl, a1, q1, q2, by rw [RepL.length a2, sizeLine_eq]; exact q3, fun p hp => k _ _ (Same.upd hp) (new_lst ok hp (RepL.flatten a2 _))⟩)
/-! //, %, ** -/
def fDiv : Dv → Dv → Option Dv
  | .int i, .int j => guard' (decide (0 < j ∧ j.natAbs.log2 < 9000)) (.int (i / j))
  | _, _ => none
theorem pure_div {G : Gx} : Pure2 G (rI CDivW fun i j => .int (i / j)) fDiv := by
  intro W v w x y Q z ok hv hw hf k
  cases x <;> cases y <;> first | (simp [fDiv] at hf; done) | skip
  cases hv; cases hw
  obtain ⟨h1, rfl⟩ := guard'_some hf
  exact ⟨_, _, rfl, rfl, (show CDivW _ _ from of_decide_eq_true (p := _ ∧ _) h1), k _ _ (Same.refl _) (.int _)⟩
def fMod : Dv → Dv → Option Dv
  | .int i, .int j => guard' (decide (0 < j)) (.int (i % j))
  | _, _ => none
theorem pure_mod {G : Gx} : Pure2 G (rI (fun _ j => 0 < j) fun i j => .int (i % j)) fMod := by
  intro W v w x y Q z ok hv hw hf k
  cases x <;> cases y <;> first | (simp [fMod] at hf; done) | skip
  cases hv; cases hw
  obtain ⟨h1, rfl⟩ := guard'_some hf
  exact ⟨_, _, rfl, rfl, of_decide_eq_true h1, k _ _ (Same.refl _) (.int _)⟩
def CPowW (i j : Int) : Prop := 0 ≤ j ∧ (Builtin.Int.intBits i : Int) * j ≤ 2 ^ 27
theorem op_powW {X : Cx} : OpR X (binaryOp .Pow) (rI CPowW fun i j => .int (i ^ j.toNat)) := opI fun _ _ _ _ _ _ _ hc q => PyProof.Rows.pow_int hc.1 hc.2 q
def fPow : Dv → Dv → Option Dv
  | .int i, .int j => guard' (decide (0 ≤ j ∧ ((i.natAbs.log2 + 1 : Nat) : Int) * j ≤ 134217728)) (.int (i ^ j.toNat))
  | _, _ => none
theorem pure_pow {G : Gx} : Pure2 G (rI CPowW fun i j => .int (i ^ j.toNat)) fPow := by
  intro W v w x y Q z ok hv hw hf k
  cases x <;> cases y <;> first | (simp [fPow] at hf; done) | skip
  cases hv; cases hw
  obtain ⟨h1, rfl⟩ := guard'_some hf
  obtain ⟨h2, h3⟩ := of_decide_eq_true h1
  refine ⟨_, _, rfl, rfl, ⟨h2, ?_⟩, k _ _ (Same.refl _) (.int _)⟩
  rename_i i j
  have b : Builtin.Int.intBits i ≤ i.natAbs.log2 + 1 := by
    unfold Builtin.Int.intBits
    split <;> omega
  have c : ((Builtin.Int.intBits i : Nat) : Int) * j ≤ ((i.natAbs.log2 + 1 : Nat) : Int) * j := Int.mul_le_mul_of_nonneg_right (Int.ofNat_le.mpr b) h2
  have e : (2 : Int) ^ 27 = 134217728 := by decide
  rw [e]
  exact Int.le_trans c h3
/-! order -/
def fCmpI (g : Int → Int → Bool) : Dv → Dv → Option Dv
  | .int i, .int j => some (.bl (g i j))
  | _, _ => none
theorem pure_cmpI {G : Gx} {g : Int → Int → Bool} : Pure2 G (rI0 fun i j => .bl (g i j)) (fCmpI g) := by
  intro W v w x y Q z ok hv hw hf k
  cases x <;> cases y <;> first | (simp [fCmpI] at hf; done) | skip
  cases hv; cases hw
  cases hf
  exact ⟨_, _, rfl, rfl, k _ _ (Same.refl _) (.bl _)⟩
/-! ==, != of data -/
mutual
def toP : Dv → Option PyData
  | .non => some .none
  | .bl b => some (.bool b)
  | .int i => some (.int i)
  | .str x => some (.str x)
  | .tup xs => match toPs xs with
    | some ds => some (.tuple ds)
    | none => none
  | .lst xs => match toPs xs with
    | some ds => some (.list ds)
    | none => none
  | .scr _ => none
  | .ref _ => none
  | .cls _ => none
  | .ty _ => none
def toPs : List Dv → Option (List PyData)
  | [] => some []
  | x :: xs => match toP x, toPs xs with
    | some d, some ds => some (d :: ds)
    | _, _ => none
end
theorem RepX.dp {G : Gx} {hot : Addr → Prop} {rho : List Addr} {H : Hp} {b : Bool} {v : V} {d : Dv} {vs : List V} {ds : List Dv} (h : RepX G hot rho H b v d vs ds) :
    (b = false → ∀ p, toP d = some p → Dp G.K H v p) ∧ (b = true → ∀ ps, toPs ds = some ps → DpAll G.K H vs ps) := by
  induction h with
  | non => exact ⟨fun _ p e => by simp [toP] at e; subst e; exact .non, fun q => nomatch q⟩
  | bl b => exact ⟨fun _ p e => by simp [toP] at e; subst e; exact .bl b, fun q => nomatch q⟩
  | int i => exact ⟨fun _ p e => by simp [toP] at e; subst e; exact .int i, fun q => nomatch q⟩
  | str x => exact ⟨fun _ p e => by simp [toP] at e; subst e; exact .str x, fun q => nomatch q⟩
  | ty n => exact ⟨fun _ p e => by simp [toP] at e, fun q => nomatch q⟩
  | tup h1 _ ih =>
    refine ⟨fun _ p e => ?_, fun q => nomatch q⟩
    simp only [toP] at e
    split at e
    · rename_i ps hp
      cases e
      exact .tup h1 (ih.2 rfl _ hp)
    · cases e
  | lst h1 _ _ ih =>
    refine ⟨fun _ p e => ?_, fun q => nomatch q⟩
    simp only [toP] at e
    split at e
    · rename_i ps hp
      cases e
      exact .lst (SqL.of h1) (ih.2 rfl _ hp)
    · cases e
  | scr h => exact ⟨fun _ p e => by simp [toP] at e, fun q => nomatch q⟩
  | ref h => exact ⟨fun _ p e => by simp [toP] at e, fun q => nomatch q⟩
  | cls h => exact ⟨fun _ p e => by simp [toP] at e, fun q => nomatch q⟩
  | nil => exact ⟨fun q => (nomatch q), fun _ ps e => by simp [toPs] at e; subst e; exact .nil⟩
  | cons _ _ ih1 ih2 =>
    refine ⟨fun q => (nomatch q), fun _ ps e => ?_⟩
    simp only [toPs] at e
    split at e
    · rename_i p ps' h1 h2
      cases e
      exact .cons (ih1.1 rfl _ h1) (ih2.2 rfl _ h2)
    · cases e
theorem View.dp {G : Gx} {W : Wd} {v : V} {d : Dv} (h : View G W v d) {p : PyData} (e : toP d = some p) : Dp G.K W.H v p := by
  cases d with
  | lst ds =>
    obtain ⟨a, xs, rfl, h1, h2⟩ := h
    simp only [toP] at e
    split at e
    · rename_i ps hp
      cases e
      exact .lst (SqL.of h1) ((RepX.dp h2).2 rfl _ hp)
    · cases e
  | _ => exact (RepX.dp h).1 rfl _ e
def eqD (x y : Dv) : Option Bool := match toP x, toP y with
  | some d, some e => if (SeqAt.shaped d && SeqAt.shaped e) = true then some (PyData.eqv d e) else none
  | _, _ => none
theorem eqD_some {x y : Dv} {b : Bool} (h : eqD x y = some b) : ∃ d e, toP x = some d ∧ toP y = some e ∧ SeqAt.shaped d = true ∧ SeqAt.shaped e = true ∧ PyData.eqv d e = b := by
  unfold eqD at h
  split at h
  · rename_i d e h1 h2
    split at h
    · rename_i h3
      rw [Bool.and_eq_true] at h3
      exact ⟨d, e, h1, h2, h3.1, h3.2, by simpa using h⟩
    · cases h
  · cases h
def fEq (x y : Dv) : Option Dv := (eqD x y).map .bl
def fNe (x y : Dv) : Option Dv := (eqD x y).map fun b => .bl (!b)
theorem pure_eq {G : Gx} : Pure2 G (rEqD G.K) fEq := by
  intro W v w x y Q z ok hv hw hf k
  obtain ⟨b, hb, rfl⟩ := Option.map_eq_some_iff.mp hf
  obtain ⟨d, e, h1, h2, h3, h4, rfl⟩ := eqD_some hb
  exact ⟨d, e, hv.dp h1, hw.dp h2, h3, h4, k _ _ (Same.refl _) (.bl _)⟩
theorem pure_ne {G : Gx} : Pure2 G (rNeD G.K) fNe := by
  intro W v w x y Q z ok hv hw hf k
  obtain ⟨b, hb, rfl⟩ := Option.map_eq_some_iff.mp hf
  obtain ⟨d, e, h1, h2, h3, h4, rfl⟩ := eqD_some hb
  exact ⟨d, e, hv.dp h1, hw.dp h2, h3, h4, k _ _ (Same.refl _) (.bl _)⟩
/-! in, not in -/
def fIn (neg : Bool) : Dv → Dv → Option Dv
  | .str x, .str y => some (.bl (xor neg (!(Builtin.Str.occurrences y x 0 y.length 1).isEmpty)))
  | x, .lst ys => match toP x, toPs ys with
    | some d, some es => guard' (SeqAt.shaped d && SeqAt.shaped (.list es)) (.bl (xor neg (es.any fun z => PyData.eqv z d)))
    | _, _ => none
  | x, .tup ys => match toP x, toPs ys with
    | some d, some es => guard' (flatP d && es.all flatP) (.bl (xor neg (es.any fun z => PyData.eqv z d)))
    | _, _ => none
  | _, _ => none
where flatP : PyData → Bool
  | .none => true
  | .bool _ => true
  | .int _ => true
  | .str _ => true
  | _ => false
def rInA (K : PySem.W.Frag) : R2 := fun x y H Q => (∃ i j, x = .str i ∧ y = .str j ∧ Q (.bl (!(Builtin.Str.occurrences j i 0 j.length 1).isEmpty)) H) ∨ rInD K x y H Q ∨ rIn K false x y H Q
def rNotInA (K : PySem.W.Frag) : R2 := fun x y H Q => (∃ i j, x = .str i ∧ y = .str j ∧ Q (.bl (!(!(Builtin.Str.occurrences j i 0 j.length 1).isEmpty))) H) ∨ rNotInD K x y H Q ∨ rIn K true x y H Q
theorem op_inA {X : Cx} (hu : X.A.units + 65 < cLine) : OpR X (compareOp .In) (rInA X.K) := OpR.or op_in_str (OpR.or (op_inD hu) op_in_seq)
theorem op_notInA {X : Cx} (hu : X.A.units + 65 < cLine) : OpR X (compareOp .NotIn) (rNotInA X.K) := OpR.or op_notin_str (OpR.or (op_notInD hu) op_notIn_seq)
theorem flat_dp {K : PySem.W.Frag} {H : Hp} {v : V} {d : PyData} (h : Dp K H v d) (f : fIn.flatP d = true) : flatV v = true := by
  cases h <;> first | rfl | (simp [fIn.flatP] at f; done)
theorem flat_dps {K : PySem.W.Frag} {H : Hp} : ∀ {vs : List V} {ds : List PyData}, DpAll K H vs ds → ds.all fIn.flatP = true → vs.all flatV = true
  | _, _, .nil, _ => rfl
  | _, _, .cons r t, f => by
    rw [List.all_cons, Bool.and_eq_true] at f ⊢
    exact ⟨flat_dp r f.1, flat_dps t f.2⟩
theorem eqv_flat {K : PySem.W.Frag} {H : Hp} {v w : V} {d e : PyData} (h : Dp K H v d) (h' : Dp K H w e) (f : fIn.flatP d = true) (f' : fIn.flatP e = true) : eqV v w = PyData.eqv d e := by
  cases h <;> cases h' <;> first | (simp [fIn.flatP] at f; done) | (simp [fIn.flatP] at f'; done) | (simp [eqV, PyData.eqv]; done)
theorem any_flat {K : PySem.W.Frag} {H : Hp} {w : V} {e : PyData} (h' : Dp K H w e) (f' : fIn.flatP e = true) : ∀ {vs : List V} {ds : List PyData}, DpAll K H vs ds → ds.all fIn.flatP = true → inV w vs = ds.any fun z => PyData.eqv z e
  | _, _, .nil, _ => rfl
  | _, _, .cons r t, f => by
    rw [List.all_cons, Bool.and_eq_true] at f
    have ih := any_flat h' f' t f.2
    unfold inV at ih ⊢
    rw [List.any_cons, List.any_cons, eqv_flat r h' f.1 f', ih]
theorem pure_in {G : Gx} : Pure2 G (rInA G.K) (fIn false) := by
  intro W v w x y Q z ok hv hw hf k
  by_cases hs : ∃ i j, x = .str i ∧ y = .str j
  · obtain ⟨i, j, rfl, rfl⟩ := hs
    cases hv; cases hw
    cases hf
    exact .inl ⟨_, _, rfl, rfl, k _ _ (Same.refl _) (by simpa using RepX.bl _)⟩
  · cases y with
    | lst ys =>
      have hf' : (match toP x, toPs ys with
        | some d, some es => guard' (SeqAt.shaped d && SeqAt.shaped (.list es)) (.bl (xor false (es.any fun z => PyData.eqv z d)))
        | _, _ => none) = some z := by
        cases x <;> first | exact hf | exact absurd ⟨_, _, rfl, rfl⟩ hs
      split at hf'
      · rename_i d es h1 h2
        obtain ⟨h3, rfl⟩ := guard'_some hf'
        rw [Bool.and_eq_true] at h3
        have hp : toP (.lst ys) = some (.list es) := by simp [toP, h2]
        exact .inr (.inl ⟨d, es, hv.dp h1, hw.dp hp, h3.1, h3.2, k _ _ (Same.refl _) (by simpa using RepX.bl _)⟩)
      · cases hf'
    | tup ys =>
      have hf' : (match toP x, toPs ys with
        | some d, some es => guard' (fIn.flatP d && es.all fIn.flatP) (.bl (xor false (es.any fun z => PyData.eqv z d)))
        | _, _ => none) = some z := by
        cases x <;> first | exact hf | exact absurd ⟨_, _, rfl, rfl⟩ hs
      split at hf'
      · rename_i d es h1 h2
        obtain ⟨h3, rfl⟩ := guard'_some hf'
        rw [Bool.and_eq_true] at h3
        cases hw with
        | tup w1 w2 =>
          have dx := hv.dp h1
          have dy := (RepX.dp w2).2 rfl _ h2
          refine .inr (.inr ⟨_, _, rfl, .inr w1, flat_dp dx h3.1, flat_dps dy h3.2, ?_⟩)
          rw [any_flat dx h3.1 dy h3.2]
          exact k _ _ (Same.refl _) (by simpa using RepX.bl _)
      · cases hf'
    | _ => cases x <;> first | (simp [fIn] at hf; done) | exact absurd ⟨_, _, rfl, rfl⟩ hs
theorem pure_notIn {G : Gx} : Pure2 G (rNotInA G.K) (fIn true) := by
  intro W v w x y Q z ok hv hw hf k
  by_cases hs : ∃ i j, x = .str i ∧ y = .str j
  · obtain ⟨i, j, rfl, rfl⟩ := hs
    cases hv; cases hw
    cases hf
    exact .inl ⟨_, _, rfl, rfl, k _ _ (Same.refl _) (by simpa using RepX.bl _)⟩
  · cases y with
    | lst ys =>
      have hf' : (match toP x, toPs ys with
        | some d, some es => guard' (SeqAt.shaped d && SeqAt.shaped (.list es)) (.bl (xor true (es.any fun z => PyData.eqv z d)))
        | _, _ => none) = some z := by
        cases x <;> first | exact hf | exact absurd ⟨_, _, rfl, rfl⟩ hs
      split at hf'
      · rename_i d es h1 h2
        obtain ⟨h3, rfl⟩ := guard'_some hf'
        rw [Bool.and_eq_true] at h3
        have hp : toP (.lst ys) = some (.list es) := by simp [toP, h2]
        exact .inr (.inl ⟨d, es, hv.dp h1, hw.dp hp, h3.1, h3.2, k _ _ (Same.refl _) (by simpa using RepX.bl _)⟩)
      · cases hf'
    | tup ys =>
      have hf' : (match toP x, toPs ys with
        | some d, some es => guard' (fIn.flatP d && es.all fIn.flatP) (.bl (xor true (es.any fun z => PyData.eqv z d)))
        | _, _ => none) = some z := by
        cases x <;> first | exact hf | exact absurd ⟨_, _, rfl, rfl⟩ hs
      split at hf'
      · rename_i d es h1 h2
        obtain ⟨h3, rfl⟩ := guard'_some hf'
        rw [Bool.and_eq_true] at h3
        cases hw with
        | tup w1 w2 =>
          have dx := hv.dp h1
          have dy := (RepX.dp w2).2 rfl _ h2
          refine .inr (.inr ⟨_, _, rfl, .inr w1, flat_dp dx h3.1, flat_dps dy h3.2, ?_⟩)
          rw [if_pos rfl, any_flat dx h3.1 dy h3.2]
          exact k _ _ (Same.refl _) (by simpa using RepX.bl _)
      · cases hf'
    | _ => cases x <;> first | (simp [fIn] at hf; done) | exact absurd ⟨_, _, rfl, rfl⟩ hs
/-! is None, is not None, is True -/
def isNon : Dv → Bool
  | .non => true
  | _ => false
theorem isNon_v {G : Gx} {W : Wd} {v : V} {x : Dv} (h : View G W v x) : decide (v = .non) = isNon x := by
  cases x with
  | lst ds => obtain ⟨a, xs, rfl, _⟩ := h; rfl
  | _ => cases h <;> rfl
def fIs (neg : Bool) : Dv → Dv → Option Dv
  | x, .non => some (.bl (xor neg (isNon x)))
  | .bl a, .bl b => some (.bl (xor neg (a == b)))
  | _, _ => none
def rIsA : R2 := fun x y H Q => (y = .non ∧ Q (.bl (decide (x = .non))) H) ∨ rIsB x y H Q
def rIsNotA : R2 := fun x y H Q => (y = .non ∧ Q (.bl (!decide (x = .non))) H) ∨ rNotB x y H Q
theorem op_isA {X : Cx} : OpR X (compareOp .Is) rIsA := OpR.or op_isN op_isBl
theorem op_isNotA {X : Cx} : OpR X (compareOp .IsNot) rIsNotA := OpR.or op_notN op_notBl
theorem pure_is {G : Gx} : Pure2 G rIsA (fIs false) := by
  intro W v w x y Q z ok hv hw hf k
  cases y with
  | non =>
    cases hw
    have hf' : some (Dv.bl (xor false (isNon x))) = some z := by cases x <;> exact hf
    cases hf'
    refine .inl ⟨rfl, ?_⟩
    rw [isNon_v hv]
    exact k _ _ (Same.refl _) (by simpa using RepX.bl _)
  | bl b =>
    cases x <;> first | (simp [fIs] at hf; done) | skip
    cases hv; cases hw; cases hf
    exact .inr ⟨_, _, rfl, rfl, k _ _ (Same.refl _) (by simpa [Bool.beq_eq_decide_eq] using RepX.bl _)⟩
  | _ => cases x <;> simp [fIs] at hf
theorem pure_isNot {G : Gx} : Pure2 G rIsNotA (fIs true) := by
  intro W v w x y Q z ok hv hw hf k
  cases y with
  | non =>
    cases hw
    have hf' : some (Dv.bl (xor true (isNon x))) = some z := by cases x <;> exact hf
    cases hf'
    refine .inl ⟨rfl, ?_⟩
    rw [isNon_v hv]
    exact k _ _ (Same.refl _) (by simpa using RepX.bl _)
  | bl b =>
    cases x <;> first | (simp [fIs] at hf; done) | skip
    cases hv; cases hw; cases hf
    exact .inr ⟨_, _, rfl, rfl, k _ _ (Same.refl _) (by simpa [Bool.beq_eq_decide_eq] using RepX.bl _)⟩
  | _ => cases x <;> simp [fIs] at hf
/-! -x -/
def fNeg : Dv → Option Dv
  | .int i => some (.int (-i))
  | _ => none
theorem pure_neg {G : Gx} : Pure1 G (rU fun i => .int (-i)) fNeg := by
  intro W v x Q z ok hv hf k
  cases x <;> first | (simp [fNeg] at hf; done) | skip
  cases hv; cases hf
  exact ⟨_, rfl, k _ _ (Same.refl _) (.int _)⟩
end DD

/-! D4: arguments, displays, tests, bool operators, subscripts, slices, built-ins, methods of built-in types -/
namespace DD
open PySem L2
open PyProof.Rows hiding St

/-! ### arguments that are only looked at; arguments that are handed on -/
def rRs (G : Gx) : St → Wd → List V → List Rd → Prop := fun σ W vs rs => Paired (fun v r => rR G σ W v r) vs rs
theorem rRs.mono {G : Gx} {σ : St} {W W' : Wd} {vs : List V} {rs : List Rd} (h : rRs G σ W vs rs) (z : Stp W W') : rRs G σ W' vs rs := Paired.mapP h fun _ _ r => r.mono z
structure DAr (X : Cx) (wish : WX) (es : List Expr) (ta : TA) (d : Ls → R (List Rd)) : Prop where
  pa : PA X es ta
  sim : Sim (gx X) (rRs (gx X)) wish ta d
def dNil {α : Type} : Ls → R (List α) := fun s => .ok [] s
def dCons {α : Type} (d : Ls → R α) (r : Ls → R (List α)) : Ls → R (List α) := fun s => (d s).bind fun x s => (r s).bind fun xs s => .ok (x :: xs) s
theorem sim_nil {X α : Type} {G : Gx} {wish : WX} {rep : St → Wd → List V → List α → Prop} (h : ∀ σ W, rep σ W [] []) : Sim G rep wish tNil dNil := fun B W σ s Q e p => p [] W e Stp.refl (h σ W)
theorem sim_cons {α : Type} {G : Gx} {wish : WX} {rep : St → Wd → V → α → Prop} {reps : St → Wd → List V → List α → Prop} {te : TE} {tr : TA} {d : Ls → R α} {r : Ls → R (List α)} (mono : ∀ σ W W' v x, rep σ W v x → Stp W W' → rep σ W' v x)
    (hc : ∀ σ W v x vs xs, rep σ W v x → reps σ W vs xs → reps σ W (v :: vs) (x :: xs)) (h : Sim G rep wish te d) (hr : Sim G reps wish tr r) : Sim G reps wish (tCons te tr) (dCons d r) := fun B W σ s Q e p =>
  h B W σ s _ e (Post.bind (rep := rep) (rep2 := reps) p fun x s1 v W1 _ e1 z1 r1 p1 =>
    hr B W1 σ s1 _ e1 (Post.bind (rep := reps) (rep2 := reps) p1 fun xs s2 vs W2 _ e2 z2 r2 p2 => p2 (v :: vs) W2 e2 Stp.refl (hc _ _ _ _ _ _ (mono _ _ _ _ _ r1 z2) r2)))
section
variable {X : Cx} {wish : WX} {e : Expr} {es : List Expr} {te : TE} {ta : TA}
theorem dar_nil : DAr X wish [] tNil dNil := ⟨pa_nil, sim_nil (X := Unit) fun _ _ => .nil⟩
theorem dar_cons {d : Ls → R Rd} {r : Ls → R (List Rd)} (h : DR X wish e te d) (hr : DAr X wish es ta r) (hs : starEach (e :: es) X.env = (false, eval e X.env) :: starEach es X.env := by rfl) : DAr X wish (e :: es) (tCons te ta) (dCons d r) :=
  ⟨pa_cons h.pe hr.pa hs, sim_cons (rep := rR (gx X)) (reps := rRs (gx X)) (fun _ _ _ _ _ r z => r.mono z) (fun _ _ _ _ _ _ a b => .cons a b) h.sim hr.sim⟩
theorem da_nil : DA X wish [] tNil dNil := ⟨pa_nil, sim_nil (X := Unit) fun _ _ => .nil⟩
theorem da_cons {d : Ls → R Dv} {r : Ls → R (List Dv)} (h : DE X wish e te d) (hr : DA X wish es ta r) (hs : starEach (e :: es) X.env = (false, eval e X.env) :: starEach es X.env := by rfl) : DA X wish (e :: es) (tCons te ta) (dCons d r) :=
  ⟨pa_cons h.pe hr.pa hs, sim_cons (rep := rV (gx X)) (reps := rL (gx X)) (fun _ _ _ _ _ r z => RepX.mono z.fz r) (fun _ _ _ _ _ _ a b => .cons a b) h.sim hr.sim⟩
end
/-! displays -/
def dTup (d : Ls → R (List Dv)) : Ls → R Dv := fun s => (d s).bind fun xs s => if szOk xs.length = true then .ok (.tup xs) s else .stuck
def dLst (d : Ls → R (List Dv)) : Ls → R Dv := fun s => (d s).bind fun xs s => if szOk xs.length = true then .ok (.lst xs) s else .stuck
section
variable {X : Cx} {wish : WX} {es : List Expr} {ta : TA} {d : Ls → R (List Dv)} {pos : Pos}
theorem sim_tup {G : Gx} (h : Sim G (rL G) wish ta d) : Sim G (rV G) wish (tTup ta) (dTup d) := fun B W σ s Q e p =>
  h B W σ s _ e (Post.bind (rep := rL G) (rep2 := rV G) p fun xs s1 vs W1 _ e1 z1 r1 p1 => by
    by_cases hz : szOk xs.length = true
    · rw [if_pos hz] at p1
      exact ⟨by rw [RepL.length r1]; exact szOk.le hz, fun q hq => Post.fresh p1 e1 (Same.upd hq) (new_tup hq r1)⟩
    · rw [if_neg hz] at p1
      exact p1.elim)
theorem sim_lst {G : Gx} (h : Sim G (rL G) wish ta d) : Sim G (rV G) wish (tLst ta) (dLst d) := fun B W σ s Q e p =>
  h B W σ s _ e (Post.bind (rep := rL G) (rep2 := rV G) p fun xs s1 vs W1 _ e1 z1 r1 p1 => by
    by_cases hz : szOk xs.length = true
    · rw [if_pos hz] at p1
      exact ⟨by rw [RepL.length r1]; exact szOk.le hz, fun q hq => Post.fresh p1 e1 (Same.upd hq) (new_lst e1.wok hq r1)⟩
    · rw [if_neg hz] at p1
      exact p1.elim)
theorem de_tup {x1} (h : DA X wish es ta d) : DE X wish (.Tuple es x1 pos) (tTup ta) (dTup d) := ⟨pe_tup h.pa, sim_tup h.sim⟩
theorem de_lst (h : DA X wish es ta d) : DE X wish (.List es pos) (tLst ta) (dLst d) := ⟨pe_lst h.pa, sim_lst h.sim⟩
end

/-! ### truth -/
def fTru : Dv → Option Bool
  | .non => some false
  | .bl b => some b
  | .int i => some (i != 0)
  | .str x => if szOk x.length = true then some ((x.length : Int) != 0) else none
  | .lst ds => some (!ds.isEmpty)
  | .tup ds => some (!ds.isEmpty)
  | _ => none
theorem fTru_ok {G : Gx} {W : Wd} {v : V} {x : Dv} {k : Bool} (h : View G W v x) (hf : fTru x = some k) : TruV G.K v W.H k := by
  cases x with
  | non => cases h; cases hf; rfl
  | bl b => cases h; cases hf; rfl
  | int i => cases h; cases hf; rfl
  | str x =>
    cases h
    simp only [fTru] at hf
    split at hf
    · rename_i hz; cases hf; exact ⟨szOk.le hz, rfl⟩
    · cases hf
  | lst ds =>
    obtain ⟨a, xs, rfl, h1, h2⟩ := h
    cases hf
    refine .inl ⟨xs, SqL.of h1, ?_⟩
    cases h2 <;> rfl
  | tup ds =>
    cases h with
    | tup h1 h2 =>
      cases hf
      refine .inr (.inl ⟨_, h1, ?_⟩)
      cases h2 <;> rfl
  | _ => simp [fTru] at hf
def dTru (d : Ls → R Rd) : Ls → R Bool := fun s => (d s).bind fun x s => R.of ((x.look s).bind fTru) s
def tTruth (K : PySem.W.Frag) (ta : TE) : TT := fun σ H Q => ta σ H fun x H' => ∃ k, TruV K x H' k ∧ Q k H'
theorem sim_tru {G : Gx} {wish : WX} {te : TE} {d : Ls → R Rd} (h : Sim G (rR G) wish te d) : Sim G rB wish (tTruth G.K te) (dTru d) := fun B W σ s Q e p =>
  h B W σ s _ e (Post.bind (rep := rR G) (rep2 := rB) p fun x s1 v W1 _ e1 z1 r1 p1 => by
    obtain ⟨k, hk, p2⟩ := Post.of p1
    obtain ⟨a, h1, h2⟩ := bind1 hk
    exact ⟨k, fTru_ok (look_view e1 r1 h1) h2, p2 k W1 e1 Stp.refl rfl⟩)
/-- a test that gives True or False: by tTest -/
def dTest (d : Ls → R Dv) : Ls → R Bool := fun s => (d s).bind fun x s => match x with
  | .bl b => .ok b s
  | _ => .stuck
theorem sim_test {G : Gx} {wish : WX} {te : TE} {d : Ls → R Dv} (h : Sim G (rV G) wish te d) : Sim G rB wish (tTest te) (dTest d) := fun B W σ s Q e p =>
  h B W σ s _ e (Post.bind (rep := rV G) (rep2 := rB) p fun x s1 v W1 _ e1 z1 r1 p1 => by
    cases x with
    | bl b => cases r1; exact ⟨b, rfl, p1 b W1 e1 Stp.refl rfl⟩
    | _ => exact p1.elim)
def dNotB (d : Ls → R Bool) : Ls → R Bool := fun s => (d s).bind fun b s => .ok (!b) s
theorem sim_notB {G : Gx} {wish : WX} {t : TT} {d : Ls → R Bool} (h : Sim G rB wish t d) : Sim G rB wish (tNot t) (dNotB d) := fun B W σ s Q e p =>
  h B W σ s _ e (Post.bind (rep := rB) (rep2 := rB) p fun x s1 v W1 _ e1 z1 r1 p1 => by cases r1; exact p1 _ W1 e1 Stp.refl rfl)
def dAndB (d r : Ls → R Bool) : Ls → R Bool := fun s => (d s).bind fun b s => if b = true then r s else .ok false s
def dOrB (d r : Ls → R Bool) : Ls → R Bool := fun s => (d s).bind fun b s => if b = true then .ok true s else r s
theorem sim_andB {G : Gx} {wish : WX} {t u : TT} {d r : Ls → R Bool} (h : Sim G rB wish t d) (hr : Sim G rB wish u r) : Sim G rB wish (tAnd t u) (dAndB d r) := fun B W σ s Q e p =>
  h B W σ s _ e (Post.bind (rep := rB) (rep2 := rB) p fun x s1 v W1 _ e1 z1 r1 p1 => by
    cases r1
    cases x with
    | true => exact hr B W1 σ s1 Q e1 p1
    | false => exact p1 false W1 e1 Stp.refl rfl)
theorem sim_orB {G : Gx} {wish : WX} {t u : TT} {d r : Ls → R Bool} (h : Sim G rB wish t d) (hr : Sim G rB wish u r) : Sim G rB wish (tOr t u) (dOrB d r) := fun B W σ s Q e p =>
  h B W σ s _ e (Post.bind (rep := rB) (rep2 := rB) p fun x s1 v W1 _ e1 z1 r1 p1 => by
    cases r1
    cases x with
    | false => exact hr B W1 σ s1 Q e1 p1
    | true => exact p1 true W1 e1 Stp.refl rfl)
structure DW (X : Cx) (wish : WX) (e : Expr) (tt : TT) (d : Ls → R Bool) : Prop where
  pw : PW X e tt
  sim : Sim (gx X) rB wish tt d
section
variable {X : Cx} {wish : WX} {a b c : Expr} {ta tb tc : TE} {t u : TT} {rest : List Expr} {pos : Pos} {d r : Ls → R Bool}
theorem dt_tru {da : Ls → R Rd} (h : DR X wish a ta da) (he : ∀ whole, isTrue a X.env whole = (do let v ← whole; standAt a.pos; holding [v] (truthy v)) := by intro _; rfl) : DT X wish a (tTruth X.K ta) (dTru da) := ⟨pt_truth h.pe he, sim_tru h.sim⟩
theorem dt_cmp {op : CmpOp} {r : R2} {f : Dv → Dv → Option Dv} {da db : Ls → R Rd} (ho : OpR X (compareOp op) r) (hp : Pure2 (gx X) r f) (ha : DR X wish a ta da) (hb : DR X wish b tb db) (hm : behindInMarks op b = false) :
    DT X wish (.Compare a [op] [b] pos) (tTest (tOp r ta tb)) (dTest (dOp f da db)) := ⟨pt_cmpR ho ha.pe hb.pe hm, sim_test (sim_op hp ha.sim hb.sim)⟩
theorem dt_not (h : DT X wish a t d) : DT X wish (.UnaryOp .Not a pos) (tNot t) (dNotB d) := ⟨pt_not h.pt, sim_notB h.sim⟩
theorem dw_and1 (h : DT X wish a t d) : DW X wish (.BoolOp .And [a] pos) t d := ⟨pw_and1 h.pt, h.sim⟩
theorem dw_or1 (h : DT X wish a t d) : DW X wish (.BoolOp .Or [a] pos) t d := ⟨pw_or1 h.pt, h.sim⟩
theorem dw_and (h : DT X wish a t d) (hr : DW X wish (.BoolOp .And (b :: rest) pos) u r) : DW X wish (.BoolOp .And (a :: b :: rest) pos) (tAnd t u) (dAndB d r) := ⟨pw_and h.pt hr.pw, sim_andB h.sim hr.sim⟩
theorem dw_or (h : DT X wish a t d) (hr : DW X wish (.BoolOp .Or (b :: rest) pos) u r) : DW X wish (.BoolOp .Or (a :: b :: rest) pos) (tOr t u) (dOrB d r) := ⟨pw_or h.pt hr.pw, sim_orB h.sim hr.sim⟩
theorem DW.dt {e : Expr} (h : DW X wish e t d) : DT X wish e t d := ⟨h.pw.pt, h.sim⟩
end
/-! and, or, not as values -/
def dAndV (d r : Ls → R Dv) : Ls → R Dv := fun s => (d s).bind fun x s => match fTru (lookDv s.mem x) with
  | some true => r s
  | some false => .ok x s
  | none => .stuck
def dOrV (d r : Ls → R Dv) : Ls → R Dv := fun s => (d s).bind fun x s => match fTru (lookDv s.mem x) with
  | some true => .ok x s
  | some false => r s
  | none => .stuck
theorem sim_andV {G : Gx} {wish : WX} {t u : TE} {d r : Ls → R Dv} (h : Sim G (rV G) wish t d) (hr : Sim G (rV G) wish u r) : Sim G (rV G) wish (tAndT G.K t u) (dAndV d r) := fun B W σ s Q e p =>
  h B W σ s _ e (Post.bind (rep := rV G) (rep2 := rV G) p fun x s1 v W1 _ e1 z1 r1 p1 => by
    split at p1
    · rename_i hk
      exact ⟨true, fTru_ok (lookDv_view e1.wok r1) (by rw [← e1.mem]; exact hk), by rw [if_pos rfl]; exact hr B W1 σ s1 Q e1 p1⟩
    · rename_i hk
      exact ⟨false, fTru_ok (lookDv_view e1.wok r1) (by rw [← e1.mem]; exact hk), by rw [if_neg (by decide)]; exact p1 v W1 e1 Stp.refl r1⟩
    · exact p1.elim)
theorem sim_orV {G : Gx} {wish : WX} {t u : TE} {d r : Ls → R Dv} (h : Sim G (rV G) wish t d) (hr : Sim G (rV G) wish u r) : Sim G (rV G) wish (tOrT G.K t u) (dOrV d r) := fun B W σ s Q e p =>
  h B W σ s _ e (Post.bind (rep := rV G) (rep2 := rV G) p fun x s1 v W1 _ e1 z1 r1 p1 => by
    split at p1
    · rename_i hk
      exact ⟨true, fTru_ok (lookDv_view e1.wok r1) (by rw [← e1.mem]; exact hk), by rw [if_pos rfl]; exact p1 v W1 e1 Stp.refl r1⟩
    · rename_i hk
      exact ⟨false, fTru_ok (lookDv_view e1.wok r1) (by rw [← e1.mem]; exact hk), by rw [if_neg (by decide)]; exact hr B W1 σ s1 Q e1 p1⟩
    · exact p1.elim)
def dNotV (d : Ls → R Rd) : Ls → R Dv := fun s => (d s).bind fun x s => R.of (((x.look s).bind fTru).map fun b => .bl (!b)) s
theorem sim_notV {G : Gx} {wish : WX} {t : TE} {d : Ls → R Rd} (h : Sim G (rR G) wish t d) : Sim G (rV G) wish (tNotT G.K t) (dNotV d) := fun B W σ s Q e p =>
  h B W σ s _ e (Post.bind (rep := rR G) (rep2 := rV G) p fun x s1 v W1 _ e1 z1 r1 p1 => by
    obtain ⟨k, hk, p2⟩ := Post.of p1
    obtain ⟨b, hb, rfl⟩ := Option.map_eq_some_iff.mp hk
    obtain ⟨a, h1, h2⟩ := bind1 hb
    exact ⟨b, fTru_ok (look_view e1 r1 h1) h2, p2 _ W1 e1 Stp.refl (.bl _)⟩)
def dIfE (c : Ls → R Bool) (d r : Ls → R Dv) : Ls → R Dv := fun s => (c s).bind fun b s => if b = true then d s else r s
theorem sim_ifE {G : Gx} {wish : WX} {t : TT} {ta tb : TE} {c : Ls → R Bool} {d r : Ls → R Dv} (h : Sim G rB wish t c) (ha : Sim G (rV G) wish ta d) (hb : Sim G (rV G) wish tb r) : Sim G (rV G) wish (tIf t ta tb) (dIfE c d r) := fun B W σ s Q e p =>
  h B W σ s _ e (Post.bind (rep := rB) (rep2 := rV G) p fun x s1 v W1 _ e1 z1 r1 p1 => by
    cases r1
    cases x with
    | true => exact ha B W1 σ s1 Q e1 p1
    | false => exact hb B W1 σ s1 Q e1 p1)
section
variable {X : Cx} {wish : WX} {a b c : Expr} {ta tb tc : TE} {t : TT} {rest : List Expr} {pos : Pos} {d r : Ls → R Dv}
theorem de_and (h : DE X wish a ta d) (hr : DE X wish (.BoolOp .And (b :: rest) pos) tb r) : DE X wish (.BoolOp .And (a :: b :: rest) pos) (tAndT X.K ta tb) (dAndV d r) := ⟨pe_andT h.pe hr.pe, sim_andV h.sim hr.sim⟩
theorem de_or (h : DE X wish a ta d) (hr : DE X wish (.BoolOp .Or (b :: rest) pos) tb r) : DE X wish (.BoolOp .Or (a :: b :: rest) pos) (tOrT X.K ta tb) (dOrV d r) := ⟨pe_orT h.pe hr.pe, sim_orV h.sim hr.sim⟩
theorem de_one {op} (h : DE X wish a ta d) : DE X wish (.BoolOp op [a] pos) ta d := ⟨pe_one h.pe, h.sim⟩
theorem de_not {da : Ls → R Rd} (h : DR X wish a ta da) : DE X wish (.UnaryOp .Not a pos) (tNotT X.K ta) (dNotV da) := ⟨pe_notT h.pe, sim_notV h.sim⟩
theorem de_if {cd : Ls → R Bool} (hc : DT X wish c t cd) (h : DE X wish a ta d) (hr : DE X wish b tb r) : DE X wish (.IfExp c a b pos) (tIf t ta tb) (dIfE cd d r) := ⟨pe_ifExp hc.pt h.pe hr.pe, sim_ifE hc.sim h.sim hr.sim⟩
/-- two comparisons, the middle one asked once -/
def dChain (f g : Dv → Dv → Option Dv) (da db dc : Ls → R Rd) : Ls → R Dv := fun s => (da s).bind fun x s => (db s).bind fun y s => match (x.look s).bind fun a => (y.look s).bind fun b => f a b with
  | some (.bl true) => (dc s).bind fun z s => R.of ((y.look s).bind fun b => (z.look s).bind fun c => g b c) s
  | some (.bl false) => .ok (.bl false) s
  | _ => .stuck
theorem sim_chain {G : Gx} {r r' : R2} {f g : Dv → Dv → Option Dv} {da db dc : Ls → R Rd} (hp : Pure2 G r f) (hp' : Pure2 G r' g) (ha : Sim G (rR G) wish ta da) (hb : Sim G (rR G) wish tb db) (hc : Sim G (rR G) wish tc dc) : Sim G (rV G) wish (tChain r r' ta tb tc) (dChain f g da db dc) := fun B W σ s Q e p =>
  ha B W σ s _ e (Post.bind (rep := rR G) (rep2 := rV G) p fun x s1 v W1 _ e1 z1 r1 p1 =>
    hb B W1 σ s1 _ e1 (Post.bind (rep := rR G) (rep2 := rV G) p1 fun y s2 w W2 _ e2 z2 r2 p2 => by
      split at p2
      · rename_i hk
        obtain ⟨a, b, h1, h2, h3⟩ := bind2 hk
        refine hp W2 v w a b _ (.bl true) e2.wok (look_view e2 (r1.mono z2) h1) (look_view e2 r2 h2) h3 fun u H' g' rp => ?_
        cases rp
        refine ⟨true, rfl, ?_⟩
        rw [if_pos rfl]
        have e3 := e2.grow g'
        refine hc B (W2.gr H') σ s2 _ e3 (Post.bind (rep := rR G) (rep2 := rV G) (p2.step (W1 := W2.gr H') (Stp.grow g')) fun z' s4 w' W4 _ e4 z4 r4 p4 => ?_)
        obtain ⟨c', hc', p5⟩ := Post.of p4
        obtain ⟨b', c2, q1, q2, q3⟩ := bind2 hc'
        exact hp' W4 w w' b' c2 Q c' e4.wok (look_view e4 ((r2.mono (W' := W2.gr H') (Stp.grow g')).mono z4) q1) (look_view e4 r4 q2) q3 fun u H'' g'' rp' => Post.fresh p5 e4 g'' rp'
      · rename_i hk
        obtain ⟨a, b, h1, h2, h3⟩ := bind2 hk
        refine hp W2 v w a b _ (.bl false) e2.wok (look_view e2 (r1.mono z2) h1) (look_view e2 r2 h2) h3 fun u H' g' rp => ?_
        cases rp
        refine ⟨false, rfl, ?_⟩
        rw [if_neg (by decide)]
        exact Post.fresh p2 e2 g' (.bl false)
      · exact p2.elim))
theorem de_chain {op op' : CmpOp} {r r' : R2} {f g : Dv → Dv → Option Dv} {da db dc : Ls → R Rd} (ho : OpR X (compareOp op) r) (ho' : OpR X (compareOp op') r') (hp : Pure2 (gx X) r f) (hp' : Pure2 (gx X) r' g) (ha : DR X wish a ta da) (hb : DR X wish b tb db) (hc : DR X wish c tc dc)
    (hm : lastMarks [op, op'] [b, c] = false := by with_unfolding_all rfl) : DE X wish (.Compare a [op, op'] [b, c] pos) (tChain r r' ta tb tc) (dChain f g da db dc) := ⟨pe_chain ho ho' ha.pe hb.pe hc.pe hm, sim_chain hp hp' ha.sim hb.sim hc.sim⟩
theorem dt_chain {op op' : CmpOp} {r r' : R2} {f g : Dv → Dv → Option Dv} {da db dc : Ls → R Rd} (ho : OpR X (compareOp op) r) (ho' : OpR X (compareOp op') r') (hp : Pure2 (gx X) r f) (hp' : Pure2 (gx X) r' g) (ha : DR X wish a ta da) (hb : DR X wish b tb db) (hc : DR X wish c tc dc)
    (hm : lastMarks [op, op'] [b, c] = false := by with_unfolding_all rfl) : DT X wish (.Compare a [op, op'] [b, c] pos) (tTest (tChain r r' ta tb tc)) (dTest (dChain f g da db dc)) := ⟨pt_chain ho ho' ha.pe hb.pe hc.pe hm, sim_test (sim_chain hp hp' ha.sim hb.sim hc.sim)⟩
end

/-! ### an item -/
def fIx : Dv → Dv → Option Dv
  | .lst xs, .int i => atI xs i
  | .tup xs, .int i => atI xs i
  | .str x, .int i => if szOk x.length = true then (atI x.cps.toList i).map fun c => .str ⟨#[c]⟩ else none
  | .scr ns, .int i => (atI ns i).map .int
  | _, _ => none
theorem atI_rep {G : Gx} {hot : Addr → Prop} {rho : List Addr} {H : Hp} {vs : List V} {ds : List Dv} {i : Int} {d : Dv} (r : RepX G hot rho H true .non .non vs ds) (h : atI ds i = some d) : ∃ v, atI vs i = some v ∧ RepX G hot rho H false v d [] [] := by
  unfold atI at h ⊢
  rw [RepL.length r]
  cases e : ixN ds.length i with
  | none => rw [e] at h; cases h
  | some j => rw [e] at h; exact RepL.getD r h
theorem pure_ix {G : Gx} : Pure2 G (rIx G.K) fIx := by
  intro W v w x y Q z ok hv hw hf k
  cases y <;> first | (cases x <;> simp [fIx] at hf; done) | skip
  rename_i i
  cases hw
  cases x <;> first | (simp [fIx] at hf; done) | skip
  · rename_i x
    cases hv
    simp only [fIx] at hf
    split at hf
    · rename_i hz
      obtain ⟨c, hc, rfl⟩ := Option.map_eq_some_iff.mp hf
      exact .inr (.inr ⟨_, _, c, rfl, rfl, szOk.le hz, hc, k _ _ (Same.refl _) (.str _)⟩)
    · cases hf
  · cases hv with
    | tup h1 h2 =>
      obtain ⟨u, hu, ru⟩ := atI_rep h2 hf
      exact .inr (.inl ⟨_, _, _, _, rfl, rfl, h1, hu, k _ _ (Same.refl _) ru⟩)
  · obtain ⟨a, xs, rfl, h1, h2⟩ := hv
    obtain ⟨u, hu, ru⟩ := atI_rep h2 hf
    exact .inl ⟨_, _, _, _, rfl, rfl, SqL.of h1, hu, k _ _ (Same.refl _) ru⟩
  · cases hv with
    | scr h1 =>
      simp only [fIx] at hf
      obtain ⟨n, hn, rfl⟩ := Option.map_eq_some_iff.mp hf
      rename_i ns a
      refine .inl ⟨_, _, _, .int n, rfl, rfl, h1.seq, ?_, k _ _ (Same.refl _) (.int _)⟩
      unfold atI at hn ⊢
      rw [List.length_map]
      cases e : ixN ns.length i with
      | none => rw [e] at hn; cases hn
      | some j =>
        rw [e] at hn
        show (ns.map V.int)[j]? = _
        rw [List.getElem?_map, show ns[j]? = some n from hn]
        rfl
section
variable {X : Cx} {wish : WX} {a b : Expr} {ta tb : TE} {da db : Ls → R Rd} {pos : Pos}
theorem de_ix (ha : DR X wish a ta da) (hb : DR X wish b tb db) (hs : PlainIx b) : DE X wish (.Subscript a b pos) (tOp (rIx X.K) ta tb) (dOp fIx da db) := ⟨pe_ix ix_seq ha.pe hb.pe hs, sim_op pure_ix ha.sim hb.sim⟩
end
/-! ### a slice -/
def rO (σ : St) (W : Wd) (a b : Option Int) : Prop := a = b
structure DO (X : Cx) (wish : WX) (e : Option Expr) (t : TO) (d : Ls → R (Option Int)) : Prop where
  po : PO X e t
  sim : Sim (gx X) rO wish t d
def dNoPart : Ls → R (Option Int) := fun s => .ok none s
def dPart (d : Ls → R Dv) : Ls → R (Option Int) := fun s => (d s).bind fun x s => match x with
  | .int i => .ok (some i) s
  | _ => .stuck
def cutD {α : Type} (xs : List α) (lo hi : Option Int) : List α := (xs.drop (HT.sIx xs.length 0 lo)).take (HT.sIx xs.length xs.length hi - HT.sIx xs.length 0 lo)
theorem cut_rep {G : Gx} {hot : Addr → Prop} {rho : List Addr} {H : Hp} {vs : List V} {ds : List Dv} {lo hi : Option Int} (r : RepX G hot rho H true .non .non vs ds) : RepX G hot rho H true .non .non (cutV vs lo hi) (cutD ds lo hi) := by
  unfold cutV cutD
  rw [RepL.length r]
  exact RepL.take _ (RepL.drop _ r)
def fSl (lo hi : Option Int) : Dv → Option Dv
  | .lst xs => some (.lst (cutD xs lo hi))
  | .tup xs => if HT.sIx xs.length 0 lo = 0 ∧ HT.sIx xs.length xs.length hi = xs.length then none else some (.tup (cutD xs lo hi))
  | .str x => if szOk x.length = true then some (.str (cutS x lo hi)) else none
  | _ => none
def rSlA (K : PySem.W.Frag) : V → Option Int → Option Int → Hp → VK → Prop := fun x lo hi H Q => rSlL K x lo hi H Q ∨ rSlT K x lo hi H Q ∨ (∃ z, x = .str z ∧ z.length ≤ sizeLine ∧ Q (.str (cutS z lo hi)) H)
def dSl (da : Ls → R Rd) (dl dh : Ls → R (Option Int)) : Ls → R Dv := fun s => (da s).bind fun x s => (dl s).bind fun lo s => (dh s).bind fun hi s => R.of ((x.look s).bind (fSl lo hi)) s
theorem sl_allA {X : Cx} : SlR X (rSlA X.K) := SlR.or sl_list (SlR.or sl_tup sl_str)
theorem sim_sl {G : Gx} {wish : WX} {te : TE} {tl th : TO} {da : Ls → R Rd} {dl dh : Ls → R (Option Int)} (ha : Sim G (rR G) wish te da) (hl : Sim G rO wish tl dl) (hh : Sim G rO wish th dh) : Sim G (rV G) wish (tSl (rSlA G.K) te tl th) (dSl da dl dh) := fun B W σ s Q e p =>
  ha B W σ s _ e (Post.bind (rep := rR G) (rep2 := rV G) p fun x s1 v W1 _ e1 z1 r1 p1 =>
    hl B W1 σ s1 _ e1 (Post.bind (rep := rO) (rep2 := rV G) p1 fun lo s2 lo' W2 _ e2 z2 r2 p2 =>
      hh B W2 σ s2 _ e2 (Post.bind (rep := rO) (rep2 := rV G) p2 fun hi s3 hi' W3 _ e3 z3 r3 p3 => by
        obtain ⟨c, hc, p4⟩ := Post.of p3
        obtain ⟨a, h1, h2⟩ := bind1 hc
        cases (show lo' = lo from r2)
        cases (show hi' = hi from r3)
        have hv := look_view e3 ((r1.mono z2).mono z3) h1
        cases a <;> first | (simp [fSl] at h2; done) | skip
        · cases hv
          simp only [fSl] at h2
          split at h2
          · rename_i hz; cases h2; exact .inr (.inr ⟨_, rfl, szOk.le hz, Post.fresh p4 e3 (Same.refl _) (.str _)⟩)
          · cases h2
        · cases hv with
          | tup q1 q2 =>
            simp only [fSl] at h2
            split at h2
            · cases h2
            · rename_i hn
              cases h2
              exact .inr (.inl ⟨_, _, rfl, q1, by rw [RepL.length q2]; exact hn, fun p' hp => Post.fresh p4 e3 (Same.upd hp) (new_tup hp (cut_rep q2))⟩)
        · obtain ⟨a', xs, rfl, q1, q2⟩ := hv
          cases h2
          exact .inl ⟨_, _, rfl, SqL.of q1, fun p' hp => Post.fresh p4 e3 (Same.upd hp) (new_lst e3.wok hp (cut_rep q2))⟩)))
section
variable {X : Cx} {wish : WX} {a : Expr} {lo hi : Option Expr} {ta : TE} {tl th : TO} {da : Ls → R Rd} {dl dh : Ls → R (Option Int)} {pos p2 : Pos}
theorem do_none : DO X wish none tNoPart dNoPart := ⟨po_none, fun B W σ s Q e p => p none W e Stp.refl rfl⟩
theorem do_some {e : Expr} {te : TE} {d : Ls → R Dv} (h : DE X wish e te d) : DO X wish (some e) (tPart te) (dPart d) := ⟨po_some h.pe, fun B W σ s Q e p =>
  h.sim B W σ s _ e (Post.bind (rep := rV (gx X)) (rep2 := rO) p fun x s1 v W1 _ e1 z1 r1 p1 => by
    cases x with
    | int i => cases r1; exact ⟨i, rfl, p1 (some i) W1 e1 Stp.refl rfl⟩
    | _ => exact p1.elim)⟩
theorem de_sl (ha : DR X wish a ta da) (hl : DO X wish lo tl dl) (hh : DO X wish hi th dh) : DE X wish (.Subscript a (.Slice lo hi none p2) pos) (tSl (rSlA X.K) ta tl th) (dSl da dl dh) := ⟨pe_slice sl_allA ha.pe hl.po hh.po, sim_sl ha.sim hl.sim hh.sim⟩
end

/-! ### built-in functions -/
def ViewL (G : Gx) (W : Wd) (vs : List V) (xs : List Dv) : Prop := Paired (View G W) vs xs
def lookAll : List Rd → Ls → Option (List Dv)
  | [], _ => some []
  | r :: rs, s => match r.look s, lookAll rs s with
    | some x, some xs => some (x :: xs)
    | _, _ => none
theorem lookAll_view {G : Gx} {B W : Wd} {σ : St} {s : Ls} (e : Emb G B W σ s) : ∀ {vs : List V} {rs : List Rd} {xs : List Dv}, rRs G σ W vs rs → lookAll rs s = some xs → ViewL G W vs xs
  | _, _, _, .nil, h => by cases h; exact .nil
  | _, _, _, .cons r t, h => by
    simp only [lookAll] at h
    split at h
    · rename_i x xs h1 h2
      cases h
      exact .cons (look_view e r h1) (lookAll_view e t h2)
    · cases h
def PureC (G : Gx) (r : List V → Hp → VK → Prop) (f : List Dv → Option Dv) : Prop := ∀ (W : Wd) vs xs Q z, WOk G W → ViewL G W vs xs → f xs = some z → (∀ u H', Same W.H H' → RepX G W.hot W.rho H' false u z [] [] → Q u H') → r vs W.H Q
def dCB (f : List Dv → Option Dv) (da : Ls → R (List Rd)) : Ls → R Dv := fun s => (da s).bind fun rs s => R.of ((lookAll rs s).bind f) s
theorem sim_CB {G : Gx} {wish : WX} {ta : TA} {da : Ls → R (List Rd)} {r : List V → Hp → VK → Prop} {f : List Dv → Option Dv} (hp : PureC G r f) (ha : Sim G (rRs G) wish ta da) : Sim G (rV G) wish (tCB r ta) (dCB f da) := fun B W σ s Q e p =>
  ha B W σ s _ e (Post.bind (rep := rRs G) (rep2 := rV G) p fun rs s1 vs W1 _ e1 z1 r1 p1 => by
    obtain ⟨c, hc, p2⟩ := Post.of p1
    obtain ⟨xs, h1, h2⟩ := bind1 hc
    exact hp W1 vs xs Q c e1.wok (lookAll_view e1 r1 h1) h2 fun u H' g rp => Post.fresh p2 e1 g rp)
theorem CallR.or {X : Cx} {f : Value} {r r' : List V → Hp → VK → Prop} (h : CallR X f r) (h' : CallR X f r') : CallR X f (fun xs H Q => r xs H Q ∨ r' xs H Q) := fun pins s σ H xs us Q I rv q =>
  q.elim (h pins s σ H xs us Q I rv) (h' pins s σ H xs us Q I rv)
section
variable {X : Cx} {wish : WX} {x : Str} {id T : String} {e : Expr} {es : List Expr} {ta : TA} {da : Ls → R (List Rd)} {p pos : Pos} {r : List V → Hp → VK → Prop} {f : List Dv → Option Dv}
theorem de_callB (hc : CallR X (.builtin id) r) (hp : PureC (gx X) r f) (hg : Gl X x) (hm : X.mg x = none) (hv : bootBuiltins x = some (.builtin id)) (ha : DAr X wish (e :: es) ta da) (hn : x ≠ "__name__" := by decide) (hdb : (x == ("__debug__" : Str)) = false := by decide)
    (he : starEach (e :: es) X.env = (false, eval e X.env) :: starEach es X.env := by rfl) (hpl : (backTo pos (starEach es X.env)).any (·.1) = false := by rfl) : DE X wish (.Call (.Name x p) (e :: es) [] pos) (tCB r ta) (dCB f da) := ⟨pe_callB hc hg hm hv ha.pa hn hdb he hpl, sim_CB hp ha.sim⟩
theorem de_callTy (hc : CallR X (.type T) r) (hp : PureC (gx X) r f) (hg : Gl X x) (hm : X.mg x = none) (hv : bootBuiltins x = some (.type T)) (ha : DAr X wish (e :: es) ta da) (hn : x ≠ "__name__" := by decide) (hdb : (x == ("__debug__" : Str)) = false := by decide)
    (he : starEach (e :: es) X.env = (false, eval e X.env) :: starEach es X.env := by rfl) (hpl : (backTo pos (starEach es X.env)).any (·.1) = false := by rfl) : DE X wish (.Call (.Name x p) (e :: es) [] pos) (tCB r ta) (dCB f da) := ⟨pe_callTy hc hg hm hv ha.pa hn hdb he hpl, sim_CB hp ha.sim⟩
end
/-! methods of built-in types that change nothing -/
def isTy (T : String) : Dv → Bool
  | .str _ => T == "str"
  | .lst _ => T == "list"
  | _ => false
theorem isTy_ok {G : Gx} {W : Wd} {T : String} {v : V} {x : Dv} (h : View G W v x) (ht : isTy T x = true) : tyV G.K T v W.H := by
  cases x with
  | str x => cases h; exact beq_iff_eq.mp ht
  | lst ds =>
    obtain ⟨a, xs, rfl, h1, h2⟩ := h
    exact .inl ⟨beq_iff_eq.mp ht, xs, SqL.of h1⟩
  | _ => simp [isTy] at ht
def PureM (G : Gx) (r : V → List V → Hp → VK → Prop) (f : Dv → List Dv → Option Dv) : Prop := ∀ (W : Wd) v x vs xs Q z, WOk G W → View G W v x → ViewL G W vs xs → f x xs = some z → (∀ u H', Same W.H H' → RepX G W.hot W.rho H' false u z [] [] → Q u H') → r v vs W.H Q
def dBM0 (T : String) (f : Dv → List Dv → Option Dv) (d : Ls → R Rd) : Ls → R Dv := fun s => (d s).bind fun x s => R.of ((x.look s).bind fun a => if isTy T a = true then f a [] else none) s
def dBM (T : String) (f : Dv → List Dv → Option Dv) (d : Ls → R Rd) (da : Ls → R (List Rd)) : Ls → R Dv := fun s => (d s).bind fun x s => match x.look s with
  | some a => if isTy T a = true then (da s).bind fun rs s => R.of ((x.look s).bind fun a => (lookAll rs s).bind fun xs => f a xs) s else .stuck
  | none => .stuck
theorem sim_BM0 {G : Gx} {wish : WX} {T : String} {te : TE} {d : Ls → R Rd} {r : V → List V → Hp → VK → Prop} {f : Dv → List Dv → Option Dv} (hp : PureM G r f) (h : Sim G (rR G) wish te d) : Sim G (rV G) wish (tBM0 G.K T r te) (dBM0 T f d) := fun B W σ s Q e p =>
  h B W σ s _ e (Post.bind (rep := rR G) (rep2 := rV G) p fun x s1 v W1 _ e1 z1 r1 p1 => by
    obtain ⟨c, hc, p2⟩ := Post.of p1
    obtain ⟨a, h1, h2⟩ := bind1 hc
    split at h2
    · rename_i ht
      exact ⟨isTy_ok (look_view e1 r1 h1) ht, hp W1 v a [] [] Q c e1.wok (look_view e1 r1 h1) .nil h2 fun u H' g rp => Post.fresh p2 e1 g rp⟩
    · cases h2)
theorem sim_BM {G : Gx} {wish : WX} {T : String} {te : TE} {ta : TA} {d : Ls → R Rd} {da : Ls → R (List Rd)} {r : V → List V → Hp → VK → Prop} {f : Dv → List Dv → Option Dv} (hp : PureM G r f) (h : Sim G (rR G) wish te d) (ha : Sim G (rRs G) wish ta da) : Sim G (rV G) wish (tBM G.K T r te ta) (dBM T f d da) := fun B W σ s Q e p =>
  h B W σ s _ e (Post.bind (rep := rR G) (rep2 := rV G) p fun x s1 v W1 _ e1 z1 r1 p1 => by
    split at p1
    · rename_i a h1
      split at p1
      · rename_i ht
        refine ⟨isTy_ok (look_view e1 r1 h1) ht, ha B W1 σ s1 _ e1 (Post.bind (rep := rRs G) (rep2 := rV G) p1 fun rs s2 vs W2 _ e2 z2 r2 p2 => ?_)⟩
        obtain ⟨c, hc, p3⟩ := Post.of p2
        obtain ⟨a', xs, q1, q2, q3⟩ := bind2 hc
        exact hp W2 v a' vs xs Q c e2.wok (look_view e2 (r1.mono z2) q1) (lookAll_view e2 r2 q2) q3 fun u H' g rp => Post.fresh p3 e2 g rp
      · exact p1.elim
    · exact p1.elim)
section
variable {X : Cx} {wish : WX} {o e : Expr} {es : List Expr} {to : TE} {t : TA} {name : Str} {apos cpos : Pos} {T id : String} {r : V → List V → Hp → VK → Prop} {f : Dv → List Dv → Option Dv} {d : Ls → R Rd} {da : Ls → R (List Rd)}
theorem de_bm0 (pa : PlainAttrs T) (slot : Slot T name id) (hty : typeOf (.builtin id) = pure (.type "method_descriptor")) (hm : MtR X id r) (hp : PureM (gx X) r f) (ho : DR X wish o to d)
    (hbase : attributeBase o name X.env (eval o X.env) = eval o X.env := by rfl) (hline : (apos.endLine == cpos.line) = true := by rfl) : DE X wish (.Call (.Attribute o name apos) [] [] cpos) (tBM0 X.K T r to) (dBM0 T f d) := ⟨pe_bm0 pa slot hty hm ho.pe hbase hline, sim_BM0 hp ho.sim⟩
theorem de_bm (pa : PlainAttrs T) (slot : Slot T name id) (hty : typeOf (.builtin id) = pure (.type "method_descriptor")) (hm : MtR X id r) (hp : PureM (gx X) r f) (ho : DR X wish o to d) (ha : DAr X wish (e :: es) t da)
    (hbase : attributeBase o name X.env (eval o X.env) = eval o X.env := by rfl)
    (hfew : ((backTo cpos (starEach (e :: es) X.env)).all (fun x => !x.1) && (backToKw cpos (keywordEach [] X.env)).all (fun x => x.1.isSome)
      && decide ((e :: es).length + ([] : List Keyword).length + (if ([] : List Keyword).isEmpty then 0 else 1) < 30)) = true := by rfl)
    (hline : (apos.endLine == cpos.line) = true := by rfl) (hs : starEach (e :: es) X.env = (false, eval e X.env) :: starEach es X.env := by rfl) (hplain : (backTo cpos (starEach es X.env)).any (·.1) = false := by rfl) :
    DE X wish (.Call (.Attribute o name apos) (e :: es) [] cpos) (tBM X.K T r to t) (dBM T f d da) := ⟨pe_bm pa slot hty hm ho.pe ha.pa hbase hfew hline hs hplain, sim_BM hp ho.sim ha.sim⟩
end
end DD

/-! D5: worlds that change; statements -/
namespace DD
open PySem L2
open PyProof.Rows hiding St

/-! ### what a statement leaves -/
inductive Fl where
  | nx (s : Ls)
  | rt (x : Dv) (s : Ls)
  | bk (s : Ls)
  | ct (s : Ls)
  | er (x : Ex) (s : Ls)
  | stuck
  deriving Inhabited
def PostS (G : Gx) (B W : Wd) (wish : WX) (D : Ends) : Fl → Prop
  | .nx s => ∀ σ' W', Emb G B W' σ' s → Stp W W' → D.nx σ' W'.H
  | .rt x s => ∀ σ' v W', Emb G B W' σ' s → Stp W W' → Rep G W' v x → D.rt v W'.H
  | .bk s => ∀ σ' W', Emb G B W' σ' s → Stp W W' → D.bk σ' W'.H
  | .ct s => ∀ σ' W', Emb G B W' σ' s → Stp W W' → D.ct σ' W'.H
  | .er x s => ∀ σ' c dx W', Emb G B W' σ' s → Stp W W' → ExRep G W' c dx x → wish c dx σ' W'.H
  | .stuck => False
def SimS (G : Gx) (wish : WX) (t : TS) (d : Ls → Fl) : Prop := ∀ B W σ s D, Emb G B W σ s → PostS G B W wish D (d s) → t D σ W.H
theorem PostS.step {G : Gx} {B W W1 : Wd} {wish : WX} {D : Ends} {r : Fl} (h : PostS G B W wish D r) (z : Stp W W1) : PostS G B W1 wish D r := by
  cases r with
  | nx s => exact fun σ' W' e y => h σ' W' e (z.trans y)
  | rt x s => exact fun σ' v W' e y => h σ' v W' e (z.trans y)
  | bk s => exact fun σ' W' e y => h σ' W' e (z.trans y)
  | ct s => exact fun σ' W' e y => h σ' W' e (z.trans y)
  | er x s => exact fun σ' c dx W' e y => h σ' c dx W' e (z.trans y)
  | stuck => exact h
def R.fl {α : Type} (r : R α) (f : α → Ls → Fl) : Fl := match r with
  | .ok a s => f a s
  | .err x s => .er x s
  | .stuck => .stuck
@[simp] theorem R.fl_ok {α : Type} (a : α) (s : Ls) (f : α → Ls → Fl) : (R.ok a s).fl f = f a s := rfl
@[simp] theorem R.fl_err {α : Type} (x : Ex) (s : Ls) (f : α → Ls → Fl) : (R.err x s : R α).fl f = .er x s := rfl
@[simp] theorem R.fl_stuck {α : Type} (f : α → Ls → Fl) : (R.stuck : R α).fl f = .stuck := rfl
/-- an expression within a statement -/
theorem Post.fl {X α : Type} {G : Gx} {B W : Wd} {wish : WX} {σ : L2.St} {rep : L2.St → Wd → X → α → Prop} {D : Ends} {Q1 : X → Hp → Prop} {r : R α} {f : α → Ls → Fl} (h : PostS G B W wish D (r.fl f))
    (k : ∀ a s v W', r = .ok a s → Emb G B W' σ s → Stp W W' → rep σ W' v a → PostS G B W' wish D (f a s) → Q1 v W'.H) : Post G B W wish σ rep Q1 r := by
  cases r with
  | ok a s => exact fun v W' e z rp => k a s v W' rfl e z rp (h.step z)
  | err x s => exact fun c dx W' e z rp => h σ c dx W' e z rp
  | stuck => exact h
structure DS (X : Cx) (wish : WX) (st : Stmt) (t : TS) (d : Ls → Fl) : Prop where
  ps : PS X st t
  sim : SimS (gx X) wish t d
structure DB (X : Cx) (wish : WX) (st : List Stmt) (t : TS) (d : Ls → Fl) : Prop where
  ps : PSs X st t
  sim : SimS (gx X) wish t d

/-! ### storing in a slot -/
theorem Emb.setv {G : Gx} {B W : Wd} {σ : L2.St} {s : Ls} (e : Emb G B W σ s) {i : Nat} (hi : i < s.loc.length) {v : V} {x : Dv} (r : Rep G W v x) : Emb G B W (σ.set i (some v)) { s with loc := s.loc.set i (.val x) } := by
  have hi' : i < σ.length := by rw [← e.len]; exact hi
  have old : ∀ (k : Nat) es, (s.loc.set i (Sl.val x))[k]? = some (Sl.own es) → k ≠ i ∧ s.loc[k]? = some (Sl.own es) := fun k es hk => by
    by_cases hki : i = k
    · subst hki
      rw [List.getElem?_set_self hi] at hk
      cases hk
    · rw [List.getElem?_set_ne hki] at hk
      exact ⟨fun z => hki z.symm, hk⟩
  refine ⟨e.wok, e.mem, by rw [List.length_set, List.length_set]; exact e.len, fun j d hj => ?_, fun j es hj => ?_, fun j k es fs b g1 g2 g3 g4 => ?_, e.stp, e.bhot, e.tmpL, e.tmpO, e.tmpN, fun j es b g1 g2 => ?_⟩
  · by_cases hji : i = j
    · subst hji
      rw [List.getElem?_set_self hi] at hj
      cases hj
      exact ⟨v, List.getElem?_set_self hi', r⟩
    · rw [List.getElem?_set_ne hji] at hj
      rw [List.getElem?_set_ne hji]
      exact e.val j d hj
  · obtain ⟨h1, h2⟩ := old j es hj
    rw [List.getElem?_set_ne (fun z => h1 z.symm)]
    exact e.own j es h2
  · obtain ⟨h1, h2⟩ := old j es g1
    obtain ⟨h3, h4⟩ := old k fs g2
    rw [List.getElem?_set_ne (fun z => h1 z.symm)] at g3
    rw [List.getElem?_set_ne (fun z => h3 z.symm)] at g4
    exact e.ownI j k es fs b h2 h4 g3 g4
  · obtain ⟨h1, h2⟩ := old j es g1
    rw [List.getElem?_set_ne (fun z => h1 z.symm)] at g2
    exact e.tmpS j es b h2 g2
theorem getElem?_dropLast {α : Type} {l : List α} {n : Nat} (h : n + 1 < l.length) : l.dropLast[n]? = l[n]? := by
  rw [List.dropLast_eq_take, List.getElem?_take_of_lt (by omega)]
theorem getElem?_dropLast' {α : Type} {l : List α} {n : Nat} {a : α} (h : l.dropLast[n]? = some a) : l[n]? = some a ∧ n + 1 < l.length := by
  have h1 := (List.getElem?_eq_some_iff.mp h).1
  rw [List.length_dropLast] at h1
  refine ⟨?_, by omega⟩
  rw [← getElem?_dropLast (by omega)]
  exact h
/-- the newest list gets a name -/
theorem Emb.seto {G : Gx} {B W : Wd} {σ : L2.St} {s : Ls} (e : Emb G B W σ s) {i n : Nat} (hi : i < s.loc.length) {ds : List Dv} {p : Addr} (h1 : s.tmp[n]? = some ds) (h2 : W.tmp[n]? = some p) (hn : n + 1 = s.tmp.length) :
    Emb G B { W with tmp := W.tmp.dropLast } (σ.set i (some (.ref p))) { s with loc := s.loc.set i (.own ds), tmp := s.tmp.dropLast } := by
  have hi' : i < σ.length := by rw [← e.len]; exact hi
  obtain ⟨⟨xs, q1, q2⟩, q3, q4, q5⟩ := e.tmpO n ds p h1 h2
  have notin : p ∉ W.tmp.dropLast := fun hm => by
    obtain ⟨m, hm⟩ := List.mem_iff_getElem?.mp hm
    obtain ⟨g1, g2⟩ := getElem?_dropLast' hm
    have := (List.getElem?_inj (by omega) e.tmpN).mp (g1.trans h2.symm)
    have := e.tmpL
    omega
  have sub : ∀ b, b ∈ W.tmp.dropLast → b ∈ W.tmp := fun b hb => List.dropLast_subset _ hb
  have old : ∀ (k : Nat) es, (s.loc.set i (Sl.own ds))[k]? = some (Sl.own es) → (k = i ∧ es = ds) ∨ (k ≠ i ∧ s.loc[k]? = some (Sl.own es)) := fun k es hk => by
    by_cases hki : i = k
    · subst hki
      rw [List.getElem?_set_self hi] at hk
      cases hk
      exact .inl ⟨rfl, rfl⟩
    · rw [List.getElem?_set_ne hki] at hk
      exact .inr ⟨fun z => hki z.symm, hk⟩
  refine ⟨⟨e.wok.nd, e.wok.len, e.wok.hotd, e.wok.hotr, e.wok.cells⟩, e.mem, by rw [List.length_set, List.length_set]; exact e.len, fun j d hj => ?_, fun j es hj => ?_, fun j k es fs b g1 g2 g3 g4 => ?_, ⟨e.stp.keep, e.stp.tups, e.stp.frzs, e.stp.pre, e.stp.hotB, e.stp.hotN, e.stp.rhoN, e.stp.dom⟩, e.bhot, ?_, fun m es b g1 g2 => ?_, e.tmpN.sublist (List.dropLast_sublist _), fun j es b g1 g2 => ?_⟩
  · by_cases hji : i = j
    · subst hji
      rw [List.getElem?_set_self hi] at hj
      cases hj
    · rw [List.getElem?_set_ne hji] at hj
      rw [List.getElem?_set_ne hji]
      exact e.val j d hj
  · rcases old j es hj with ⟨rfl, rfl⟩ | ⟨g1, g2⟩
    · exact ⟨p, xs, List.getElem?_set_self hi', q1, q2, q3, q4, q5⟩
    · rw [List.getElem?_set_ne (fun z => g1 z.symm)]
      exact e.own j es g2
  · rcases old j es g1 with ⟨rfl, rfl⟩ | ⟨a1, a2⟩
    · rcases old k fs g2 with ⟨rfl, rfl⟩ | ⟨b1, b2⟩
      · rfl
      · rw [List.getElem?_set_self hi'] at g3
        rw [List.getElem?_set_ne (fun z => b1 z.symm)] at g4
        cases g3
        exact absurd (List.mem_of_getElem? h2) (e.tmpS k fs _ b2 g4)
    · rw [List.getElem?_set_ne (fun z => a1 z.symm)] at g3
      rcases old k fs g2 with ⟨rfl, rfl⟩ | ⟨b1, b2⟩
      · rw [List.getElem?_set_self hi'] at g4
        cases g4
        exact absurd (List.mem_of_getElem? h2) (e.tmpS j es _ a2 g3)
      · rw [List.getElem?_set_ne (fun z => b1 z.symm)] at g4
        exact e.ownI j k es fs b a2 b2 g3 g4
  · rw [List.length_dropLast, List.length_dropLast, e.tmpL]
  · obtain ⟨a1, a2⟩ := getElem?_dropLast' g1
    obtain ⟨b1, b2⟩ := getElem?_dropLast' g2
    exact e.tmpO m es b a1 b1
  · rcases old j es g1 with ⟨rfl, rfl⟩ | ⟨a1, a2⟩
    · rw [List.getElem?_set_self hi'] at g2
      cases g2
      exact notin
    · rw [List.getElem?_set_ne (fun z => a1 z.symm)] at g2
      exact fun hb => e.tmpS j es b a2 g2 (sub b hb)

/-! ### expressions that make a list for a name -/
def rN (G : Gx) : L2.St → Wd → V → Nat → Prop := fun _ W v n => ∃ p, W.tmp[n]? = some p ∧ v = .ref p
theorem rN.mono {G : Gx} {σ : L2.St} {W W' : Wd} {v : V} {n : Nat} (h : rN G σ W v n) (z : Stp W W') : rN G σ W' v n := let ⟨p, h1, h2⟩ := h; ⟨p, z.tmp _ _ h1, h2⟩
structure DN (X : Cx) (wish : WX) (e : Expr) (te : TE) (d : Ls → R Nat) : Prop where
  pe : PE X e te
  sim : Sim (gx X) (rN (gx X)) wish te d
/-- a new list is held -/
def Ls.push (s : Ls) (ds : List Dv) : Ls := { s with tmp := s.tmp ++ [ds] }
def Wd.push (W : Wd) (p : Addr) (xs : List V) : Wd := ⟨fun b => W.hot b ∨ b = p, W.rho, W.mem, upd W.H p (.lst xs), W.tmp ++ [p]⟩
theorem Fz.push {G : Gx} {W : Wd} (ok : WOk G W) {p : Addr} {xs : List V} (hp : W.H p = none) : Fz W.hot W.rho W.H (W.push p xs).hot (W.push p xs).rho (W.push p xs).H := by
  have g : Same W.H (upd W.H p (.lst xs)) := Same.upd hp
  exact ⟨fun a o _ h => g a o h, fun a o hn h hh => hh.elim hn fun q => (by subst q; rw [hp] at h; cases h), fun a ys h => g a _ h, fun a o u h => g a _ h, fun _ _ h => h⟩
theorem WOk.push {G : Gx} {W : Wd} (ok : WOk G W) {p : Addr} {xs : List V} (hp : W.H p = none) : WOk G (W.push p xs) := by
  have g : Same W.H (upd W.H p (.lst xs)) := Same.upd hp
  have z := Fz.push (xs := xs) ok hp
  refine ⟨ok.nd, ok.len, fun a h => ?_, fun a h => .inl (ok.hotr a h), fun n o a h1 h2 => ?_⟩
  · rcases h with h | h
    · obtain ⟨o, q⟩ := ok.hotd a h; exact ⟨o, g _ _ q⟩
    · subst h; exact ⟨_, upd_same⟩
  · have q := ok.cells n o a h1 h2
    cases o with
    | lst es => obtain ⟨ys, q1, q2⟩ := q; exact ⟨ys, g _ _ q1, RepX.mono z q2⟩
    | dct kvs => obtain ⟨l, q1, q2⟩ := q; exact ⟨l, g _ _ q1, RepF.mono (fun _ _ r => RepX.mono z r) q2⟩
    | ins C fs => obtain ⟨Ca, dx, l, q0, q1, q2⟩ := q; exact ⟨Ca, dx, l, q0, g _ _ q1, RepF.mono (fun _ _ r => RepX.mono z r) q2⟩
    | tab C x q0 => exact q.fz z fun u e => g _ _ e
    | exn C d =>
      cases d with
      | none => obtain ⟨Ca, q1, q2⟩ := q; exact ⟨Ca, q1, g _ _ q2⟩
      | some k => obtain ⟨Ca, dx, q1, q2, q3⟩ := q; exact ⟨Ca, dx, q1, q2, g _ _ q3⟩
    | xdc fs => obtain ⟨l, q1, q2⟩ := q; exact ⟨l, g _ _ q1, RepF.mono (fun _ _ r => RepX.mono z r) q2⟩
theorem Emb.pushW {G : Gx} {B W : Wd} {σ : L2.St} {s : Ls} (e : Emb G B W σ s) {p : Addr} {xs : List V} {ds : List Dv} (hp : W.H p = none) (r : RepL G W xs ds) :
    Emb G B (W.push p xs) σ (s.push ds) ∧ Stp W (W.push p xs) ∧ (W.push p xs).tmp[s.tmp.length]? = some p := by
  have g : Same W.H (upd W.H p (.lst xs)) := Same.upd hp
  have nohot : ¬ W.hot p := fun h => by obtain ⟨o, q⟩ := e.wok.hotd p h; rw [hp] at q; cases q
  have norho : p ∉ W.rho := fun h => nohot (e.wok.hotr p h)
  have z : Fz W.hot W.rho W.H (fun b => W.hot b ∨ b = p) W.rho (upd W.H p (.lst xs)) := ⟨fun a o _ h => g a o h, fun a o hn h hh => hh.elim hn fun q => (by subst q; rw [hp] at h; cases h), fun a ys h => g a _ h, fun a o u h => g a _ h, fun _ _ h => h⟩
  have ntmp : p ∉ W.tmp := fun h => by
    obtain ⟨n, hn⟩ := List.mem_iff_getElem?.mp h
    have hl := (List.getElem?_eq_some_iff.mp hn).1
    rw [← e.tmpL] at hl
    obtain ⟨⟨ys, q, _⟩, _⟩ := e.tmpO n s.tmp[n] p (by simp [hl]) hn
    rw [hp] at q; cases q
  have hlen : s.tmp.length = W.tmp.length := e.tmpL
  refine ⟨?_, ⟨z, fun n a h => ?_⟩, ?_⟩
  · refine ⟨e.wok.push hp, e.mem, e.len, fun i d h => ?_, fun i es h => ?_, e.ownI, ?_, e.bhot, ?_, fun n es a h1 h2 => ?_, ?_, fun i es a h1 h2 => ?_⟩
    · obtain ⟨v, q1, q2⟩ := e.val i d h
      exact ⟨v, q1, RepX.mono z q2⟩
    · obtain ⟨a, ys, q1, q2, q3, q4, q5, q6⟩ := e.own i es h
      exact ⟨a, ys, q1, g _ _ q2, RepX.mono z q3, .inl q4, q5, q6⟩
    · have c := e.stp
      have nb : W.H p = none → B.H p = none := fun h => by
        cases q : B.H p with
        | none => rfl
        | some o => obtain ⟨o', q'⟩ := c.dom p o q; rw [h] at q'; cases q'
      refine ⟨fun a o h n => g _ _ (c.keep a o h n), fun a ys h => g _ _ (c.tups a ys h), fun a o u h => g _ _ (c.frzs a o u h), c.pre, fun a h => .inl (c.hotB a h), fun a h => ?_, c.rhoN, fun a o h => ?_⟩
      · rcases h with h | h
        · exact c.hotN a h
        · subst h; exact .inr (nb hp)
      · obtain ⟨o', q⟩ := c.dom a o h; exact ⟨o', g _ _ q⟩
    · show (s.tmp ++ [ds]).length = (W.tmp ++ [p]).length
      rw [List.length_append, List.length_append, hlen]; rfl
    · have h1' : (s.tmp ++ [ds])[n]? = some es := h1
      have h2' : (W.tmp ++ [p])[n]? = some a := h2
      by_cases hn : n < s.tmp.length
      · rw [List.getElem?_append_left hn] at h1'
        rw [List.getElem?_append_left (by omega)] at h2'
        obtain ⟨⟨ys, q1, q2⟩, q3, q4, q5⟩ := e.tmpO n es a h1' h2'
        exact ⟨⟨ys, g _ _ q1, RepX.mono z q2⟩, .inl q3, q4, q5⟩
      · have hl := (List.getElem?_eq_some_iff.mp h1').1
        rw [List.length_append, List.length_singleton] at hl
        obtain rfl : n = s.tmp.length := by omega
        rw [List.getElem?_append_right (Nat.le_refl _), Nat.sub_self] at h1'
        rw [List.getElem?_append_right (by omega), hlen, Nat.sub_self] at h2'
        cases h1'; cases h2'
        refine ⟨⟨xs, upd_same, RepX.mono z r⟩, .inr rfl, norho, ?_⟩
        cases q : B.H p with
        | none => rfl
        | some o => obtain ⟨o', q'⟩ := e.stp.dom p o q; rw [hp] at q'; cases q'
    · show (W.tmp ++ [p]).Nodup
      rw [List.nodup_append]
      exact ⟨e.tmpN, by simp, fun a ha b hb q => ntmp (by rw [List.mem_singleton] at hb; rw [← hb, ← q]; exact ha)⟩
    · show a ∉ W.tmp ++ [p]
      intro hm
      rcases List.mem_append.mp hm with hm | hm
      · exact e.tmpS i es a h1 h2 hm
      · rw [List.mem_singleton] at hm
        subst hm
        obtain ⟨b, ys, q1, q2, _⟩ := e.own i es h1
        rw [h2] at q1
        injection q1 with q1; injection q1 with q1; injection q1 with q1
        subst q1
        rw [hp] at q2; cases q2
  · show (W.tmp ++ [p])[n]? = some a
    rw [List.getElem?_append_left (List.getElem?_eq_some_iff.mp h).1]
    exact h
  · show (W.tmp ++ [p])[s.tmp.length]? = some p
    rw [List.getElem?_append_right (by omega), hlen, Nat.sub_self]
    rfl
theorem Emb.push {G : Gx} {B W : Wd} {σ : L2.St} {s : Ls} (e : Emb G B W σ s) {p : Addr} {xs : List V} {ds : List Dv} (hp : W.H p = none) (r : RepL G W xs ds) :
    ∃ W', W'.H = upd W.H p (.lst xs) ∧ Emb G B W' σ (s.push ds) ∧ Stp W W' ∧ W'.tmp[s.tmp.length]? = some p ∧ W'.rho = W.rho :=
  let ⟨h1, h2, h3⟩ := e.pushW hp r
  ⟨W.push p xs, rfl, h1, h2, h3, rfl⟩
/-- what is wanted behind a new list -/
theorem Post.push {G : Gx} {B W : Wd} {wish : WX} {σ : L2.St} {Q : VK} {ds : List Dv} {s : Ls} (h : Post G B W wish σ (rN G) Q (.ok s.tmp.length (s.push ds))) (e : Emb G B W σ s) {p : Addr} {xs : List V} (hp : W.H p = none) (r : RepL G W xs ds) : Q (.ref p) (upd W.H p (.lst xs)) := by
  obtain ⟨W', h1, h2, h3, h4, _⟩ := e.push hp r
  rw [← h1]
  exact h (.ref p) W' h2 h3 ⟨p, h4, rfl⟩
def dNew (s : Ls) (ds : List Dv) : R Nat := .ok s.tmp.length (s.push ds)
def dLstN (d : Ls → R (List Dv)) : Ls → R Nat := fun s => (d s).bind fun xs s => if szOk xs.length = true then dNew s xs else .stuck
theorem sim_lstN {G : Gx} {wish : WX} {ta : TA} {d : Ls → R (List Dv)} (h : Sim G (rL G) wish ta d) : Sim G (rN G) wish (tLst ta) (dLstN d) := fun B W σ s Q e p =>
  h B W σ s _ e (Post.bind (rep := rL G) (rep2 := rN G) p fun xs s1 vs W1 _ e1 z1 r1 p1 => by
    by_cases hz : szOk xs.length = true
    · rw [if_pos hz] at p1
      exact ⟨by rw [RepL.length r1]; exact szOk.le hz, fun q hq => Post.push p1 e1 hq r1⟩
    · rw [if_neg hz] at p1
      exact p1.elim)
theorem dn_lst {X : Cx} {wish : WX} {es : List Expr} {ta : TA} {d : Ls → R (List Dv)} {pos : Pos} (h : DA X wish es ta d) : DN X wish (.List es pos) (tLst ta) (dLstN d) := ⟨pe_lst h.pa, sim_lstN h.sim⟩

/-! ### blocks and simple statements -/
def dSeq (d r : Ls → Fl) : Ls → Fl := fun s => match d s with
  | .nx s => r s
  | x => x
def dNext : Ls → Fl := fun s => .nx s
theorem sim_seq {G : Gx} {wish : WX} {t u : TS} {d r : Ls → Fl} (h : SimS G wish t d) (hr : SimS G wish u r) : SimS G wish (tSeq t u) (dSeq d r) := by
  intro B W σ s D e p
  refine h B W σ s _ e ?_
  unfold dSeq at p
  cases hd : d s with
  | nx s1 => rw [hd] at p; exact fun σ' W' e' z => hr B W' σ' s1 D e' (p.step z)
  | rt x s1 => rw [hd] at p; exact p
  | bk s1 => rw [hd] at p; exact p
  | ct s1 => rw [hd] at p; exact p
  | er x s1 => rw [hd] at p; exact p
  | stuck => rw [hd] at p; exact p
theorem sim_next {G : Gx} {wish : WX} : SimS G wish tNext dNext := fun B W σ s D e p => p σ W e Stp.refl
section
variable {X : Cx} {wish : WX} {st : Stmt} {rest : List Stmt} {t u : TS} {d r : Ls → Fl} {pos : Pos}
theorem db_nil : DB X wish [] tNext dNext := ⟨pss_nil, sim_next⟩
theorem db_cons (h : DS X wish st t d) (hr : DB X wish rest u r) : DB X wish (st :: rest) (tSeq t u) (dSeq d r) := ⟨pss_cons h.ps hr.ps, sim_seq h.sim hr.sim⟩
theorem db_one (h : DS X wish st t d) : DB X wish [st] t d := ⟨pss_one h.ps, h.sim⟩
theorem ds_pass : DS X wish (.Pass pos) tNext dNext := ⟨ps_pass, sim_next⟩
def dBreak : Ls → Fl := fun s => .bk s
def dCont : Ls → Fl := fun s => .ct s
theorem ds_break : DS X wish (.Break pos) tBreak dBreak := ⟨ps_break, fun B W σ s D e p => p σ W e Stp.refl⟩
theorem ds_continue : DS X wish (.Continue pos) tCont dCont := ⟨ps_continue, fun B W σ s D e p => p σ W e Stp.refl⟩
theorem ds_doc {x j pos pos'} : DS X wish (.Expr (.Constant (.str x) j pos) pos') tNext dNext := ⟨ps_doc, sim_next⟩
def dRet (d : Ls → R Dv) : Ls → Fl := fun s => (d s).fl fun x s => .rt x s
theorem sim_ret {G : Gx} {te : TE} {d : Ls → R Dv} (h : Sim G (rV G) wish te d) : SimS G wish (tRet te) (dRet d) := fun B W σ s D e p =>
  h B W σ s _ e (Post.fl (rep := rV G) p fun x s1 v W1 _ e1 z1 r1 p1 => p1 σ v W1 e1 Stp.refl r1)
theorem ds_ret {e : Expr} {te : TE} {d : Ls → R Dv} (h : DE X wish e te d) : DS X wish (.Return (some e) pos) (tRet te) (dRet d) := ⟨ps_ret h.pe, sim_ret h.sim⟩
def dRetN : Ls → Fl := fun s => .rt .non s
theorem ds_retN : DS X wish (.Return none pos) tRetN dRetN := ⟨ps_retN, fun B W σ s D e p => p σ .non W e Stp.refl .non⟩
def dIf (c : Ls → R Bool) (d r : Ls → Fl) : Ls → Fl := fun s => (c s).fl fun b s => if b = true then d s else r s
theorem sim_if {G : Gx} {c : TT} {cd : Ls → R Bool} (hc : Sim G rB wish c cd) (h : SimS G wish t d) (hr : SimS G wish u r) : SimS G wish (tIfS c t u) (dIf cd d r) := fun B W σ s D e p =>
  hc B W σ s _ e (Post.fl (rep := rB) p fun x s1 v W1 _ e1 z1 r1 p1 => by
    cases r1
    cases x with
    | true => exact h B W1 σ s1 D e1 p1
    | false => exact hr B W1 σ s1 D e1 p1)
theorem ds_if {c : Expr} {a b : List Stmt} {tc : TT} {cd : Ls → R Bool} (hc : DT X wish c tc cd) (h : DB X wish a t d) (hr : DB X wish b u r) : DS X wish (.If c a b pos) (tIfS tc t u) (dIf cd d r) := ⟨ps_if hc.pt h.ps hr.ps, sim_if hc.sim h.sim hr.sim⟩
def dDrop {α : Type} (d : Ls → R α) : Ls → Fl := fun s => (d s).fl fun _ s => .nx s
theorem ds_expr {e : Expr} {te : TE} {d : Ls → R Dv} (h : DE X wish e te d) (hs : swapsWith e none pos.line X.env = pure false := by rfl) : DS X wish (.Expr e pos) (tDrop te) (dDrop d) := ⟨ps_expr h.pe hs, fun B W σ s D e p =>
  h.sim B W σ s _ e (Post.fl (rep := rV (gx X)) p fun x s1 v W1 _ e1 z1 r1 p1 => p1 σ W1 e1 Stp.refl)⟩
end

/-! ### assignments -/
def stV (i : Nat) (x : Dv) (s : Ls) : Option Ls := if i < s.loc.length then some { s with loc := s.loc.set i (.val x) } else none
/-- only these slots have changed -/
def Only (tv : List Nat) (σ σ' : L2.St) : Prop := σ'.length = σ.length ∧ ∀ j, j ∉ tv → σ'[j]? = σ[j]?
theorem Only.refl {tv : List Nat} {σ : L2.St} : Only tv σ σ := ⟨rfl, fun _ _ => rfl⟩
theorem Only.set {σ : L2.St} {i : Nat} {v : Option V} : Only [i] σ (σ.set i v) := ⟨List.length_set, fun j hj => List.getElem?_set_ne (fun e => hj (by simp [e]))⟩
theorem Only.app {tv tw : List Nat} {σ σ1 σ2 : L2.St} (a : Only tv σ σ1) (b : Only tw σ1 σ2) : Only (tv ++ tw) σ σ2 := ⟨b.1.trans a.1, fun j hj => (b.2 j fun h => hj (List.mem_append_right _ h)).trans (a.2 j fun h => hj (List.mem_append_left _ h))⟩
/-- a target -/
def SimG (G : Gx) (g : TG) (tv : List Nat) (d : Dv → Ls → Option Ls) : Prop := ∀ B W σ s v x s' k, Emb G B W σ s → Rep G W v x → d x s = some s' → (∀ σ' W', Emb G B W' σ' s' → Stp W W' → Only tv σ σ' → k σ' W'.H) → g v σ W.H k
structure DG (X : Cx) (tg : Expr) (g : TG) (tv : List Nat) (d : Dv → Ls → Option Ls) : Prop where
  pg : PG X tg g
  sim : SimG (gx X) g tv d
theorem sim_gname {G : Gx} {i : Nat} : SimG G (gName i) [i] (stV i) := by
  intro B W σ s v x s' k e r h q
  unfold stV at h
  split at h
  · rename_i hi
    cases h
    exact q _ W (e.setv hi r) Stp.refl Only.set
  · cases h
def SimGs (G : Gx) (g : TGs) (tv : List Nat) (d : List Dv → Ls → Option Ls) : Prop := ∀ B W σ s vs xs s' k, Emb G B W σ s → RepL G W vs xs → d xs s = some s' → (∀ σ' W', Emb G B W' σ' s' → Stp W W' → Only tv σ σ' → k σ' W'.H) → g vs σ W.H k
structure DGs (X : Cx) (ts : List Expr) (g : TGs) (n : Nat) (tv : List Nat) (d : List Dv → Ls → Option Ls) : Prop where
  pg : PGs X ts g
  sim : SimGs (gx X) g tv d
  len : ∀ xs s s', d xs s = some s' → xs.length = n
def stNil : List Dv → Ls → Option Ls
  | [], s => some s
  | _ :: _, _ => none
def stCons (d : Dv → Ls → Option Ls) (r : List Dv → Ls → Option Ls) : List Dv → Ls → Option Ls
  | x :: xs, s => (d x s).bind (r xs)
  | [], _ => none
def stTup (d : List Dv → Ls → Option Ls) : Dv → Ls → Option Ls
  | .tup xs, s => d xs s
  | _, _ => none
section
variable {X : Cx} {wish : WX} {pos : Pos}
theorem dg_name {i : Nat} {x : Str} {pos : Pos} (hN : X.N.Nodup) (hi : X.N[i]? = some x) (hx : Loc X.env.scope x) (hf : X.fn x = true ∨ X.env.scope.names.lookup x = some .local := by first | exact .inl rfl | exact .inr rfl | assumption) : DG X (.Name x pos) (gName i) [i] (stV i) := ⟨pg_name hN hi hx hf, sim_gname⟩
theorem dgs_nil : DGs X [] gNil 0 [] stNil := ⟨pgs_nil, fun B W σ s vs xs s' k e r h q => by
  cases r with
  | nil => cases h; exact ⟨rfl, q σ W e Stp.refl Only.refl⟩
  | cons _ _ => (cases h), fun xs s s' h => by
  cases xs with
  | nil => rfl
  | cons _ _ => cases h⟩
theorem dgs_cons {e : Expr} {es : List Expr} {t : TG} {u : TGs} {n : Nat} {tv tw : List Nat} {d : Dv → Ls → Option Ls} {r : List Dv → Ls → Option Ls} (h : DG X e t tv d) (hr : DGs X es u n tw r) (hs : (assignEach (e :: es) X.env).map (·.2) = assign e X.env :: (assignEach es X.env).map (·.2) := by rfl) : DGs X (e :: es) (gCons t u) (n + 1) (tv ++ tw) (stCons d r) := ⟨pgs_cons h.pg hr.pg hs, fun B W σ s vs xs s' k e rp hd q => by
  cases rp with
  | nil => cases hd
  | cons r1 r2 =>
    obtain ⟨s1, h1, h2⟩ := bind1 hd
    exact ⟨_, _, rfl, h.sim B W σ s _ _ s1 _ e r1 h1 fun σ1 W1 e1 z1 o1 => hr.sim B W1 σ1 s1 _ _ s' k e1 (RepX.mono z1.fz r2) h2 fun σ2 W2 e2 z2 o2 => q σ2 W2 e2 (z1.trans z2) (o1.app o2)⟩, fun xs s s' h => by
  cases xs with
  | nil => cases h
  | cons x xs =>
    obtain ⟨s1, h1, h2⟩ := bind1 h
    rw [List.length_cons, hr.len _ _ _ h2]⟩
theorem dg_tup {es : List Expr} {k : Nat} {t : TGs} {n : Nat} {tv : List Nat} {d : List Dv → Ls → Option Ls} (hc : X.calm = true) (h : DGs X es t n tv d) (hn : (assignEach es X.env).length = n := by rfl) (hst : (assignEach es X.env).findIdx? (·.1) = none := by rfl) : DG X (.Tuple es k pos) (gTup X.K n t) tv (stTup d) := ⟨pg_tup hc h.pg hn hst, fun B W σ s v x s' k e rp hd q => by
  cases x with
  | tup xs => cases rp with
    | tup r1 r2 => exact ⟨_, _, rfl, r1, by rw [RepL.length r2]; exact h.len _ _ _ hd, h.sim B W σ s _ _ s' k e r2 hd q⟩
  | _ => cases hd⟩
def dAsg (d : Ls → R Dv) (g : Dv → Ls → Option Ls) : Ls → Fl := fun s => (d s).fl fun x s => match g x s with
  | some s => .nx s
  | none => .stuck
theorem sim_asg {G : Gx} {te : TE} {g : TG} {d : Ls → R Dv} {dg : Dv → Ls → Option Ls} (h : Sim G (rV G) wish te d) {tv : List Nat} (hg : SimG G g tv dg) : SimS G wish (tAsg te g) (dAsg d dg) := fun B W σ s D e p =>
  h B W σ s _ e (Post.fl (rep := rV G) p fun x s1 v W1 _ e1 z1 r1 p1 => by
    cases hd : dg x s1 with
    | none => simp only [hd] at p1; exact p1.elim
    | some s2 =>
      simp only [hd] at p1
      exact hg B W1 σ s1 v x s2 _ e1 r1 hd fun σ' W' e' z' _ => p1 σ' W' e' z')
theorem ds_asg {tg e : Expr} {te : TE} {g : TG} {d : Ls → R Dv} {dg : Dv → Ls → Option Ls} (h : DE X wish e te d) {tv : List Nat} (hg : DG X tg g tv dg) (hs : swapsWithSole [tg] e pos.line X.env = pure false := by rfl) (hw : swappedStores [tg] e X.env = pure none := by rfl) (h1 : (assignEach [tg] X.env).map (·.2) = [assign tg X.env] := by rfl) : DS X wish (.Assign [tg] e pos) (tAsg te g) (dAsg d dg) := ⟨ps_asg h.pe hg.pg hs hw h1, sim_asg h.sim hg.sim⟩
/-- x = [..]: the name's own list -/
def stN (i n : Nat) (s : Ls) : Option Ls := match s.tmp[n]? with
  | some ds => if i < s.loc.length ∧ n + 1 = s.tmp.length then some { s with loc := s.loc.set i (.own ds), tmp := s.tmp.dropLast } else none
  | none => none
def dAsgN (i : Nat) (d : Ls → R Nat) : Ls → Fl := fun s0 => (d s0).fl fun n s => if n = s0.tmp.length then (match stN i n s with
  | some s => .nx s
  | none => .stuck) else .stuck
theorem stN_some {i n : Nat} {s s' : Ls} (h : stN i n s = some s') : ∃ ds, s.tmp[n]? = some ds ∧ i < s.loc.length ∧ n + 1 = s.tmp.length ∧ s' = { s with loc := s.loc.set i (.own ds), tmp := s.tmp.dropLast } := by
  unfold stN at h
  split at h
  · rename_i ds hs
    split at h
    · rename_i hc
      cases h
      exact ⟨ds, hs, hc.1, hc.2, rfl⟩
    · cases h
  · cases h
theorem Stp.pop {W W1 : Wd} (z : Stp W W1) {n : Nat} (hn : W1.tmp.length = n + 1) (h : W.tmp.length ≤ n) : Stp W { W1 with tmp := W1.tmp.dropLast } := ⟨z.fz, fun m a hm => by
  have h1 := z.tmp m a hm
  have h2 := (List.getElem?_eq_some_iff.mp hm).1
  show W1.tmp.dropLast[m]? = some a
  rw [getElem?_dropLast (by omega)]
  exact h1⟩
theorem sim_asgN {G : Gx} {te : TE} {i : Nat} {d : Ls → R Nat} (h : Sim G (rN G) wish te d) : SimS G wish (tAsg te (gName i)) (dAsgN i d) := fun B W σ s D e p => by
  refine h B W σ s _ e ?_
  unfold dAsgN at p
  cases hd : d s with
  | ok n s1 =>
    rw [hd] at p
    intro v W1 e1 z1 r1
    obtain ⟨q, hq, rfl⟩ := r1
    simp only [R.fl_ok] at p
    split at p
    · rename_i hn0
      split at p
      · rename_i s2 hs
        obtain ⟨ds, h1, h2, h3, rfl⟩ := stN_some hs
        exact p _ { W1 with tmp := W1.tmp.dropLast } (e1.seto h2 h1 hq h3) (z1.pop (n := n) (by rw [← e1.tmpL, h3]) (by rw [← e.tmpL]; omega))
      · exact p.elim
    · exact p.elim
  | err x s1 => rw [hd] at p; exact fun c dx W' e' z r => p σ c dx W' e' z r
  | stuck => rw [hd] at p; exact p
theorem ds_asgN {i : Nat} {x : Str} {e : Expr} {te : TE} {d : Ls → R Nat} {p : Pos} (h : DN X wish e te d) (hN : X.N.Nodup) (hi : X.N[i]? = some x) (hx : Loc X.env.scope x) (hf : X.fn x = true ∨ X.env.scope.names.lookup x = some .local := by first | exact .inl rfl | exact .inr rfl | assumption)
    (hs : swapsWithSole [.Name x p] e pos.line X.env = pure false := by rfl) (hw : swappedStores [.Name x p] e X.env = pure none := by rfl) : DS X wish (.Assign [.Name x p] e pos) (tAsg te (gName i)) (dAsgN i d) := ⟨ps_asg h.pe (pg_name hN hi hx hf) hs hw, sim_asgN h.sim⟩
end
end DD

/-! D6: lists that change; two names at once; subscripts stored -/
namespace DD
open PySem L2
open PyProof.Rows hiding St

theorem Fz.mut {hot : Addr → Prop} {rho : List Addr} {H : Hp} {a : Addr} {o u : HO} (ha : hot a) (hu : H a = some u) (h1 : ∀ xs, u ≠ .tup xs) (h2 : ¬ Fixed u) : Fz hot rho H hot rho (upd H a o) :=
  ⟨fun b v hn h => by rw [upd_ne (fun q => hn (by subst q; exact ha))]; exact h, fun _ _ h _ => h, fun b xs h => by rw [upd_ne (fun q => by subst q; rw [hu] at h; cases h; exact h1 _ rfl)]; exact h, fun b v fv h => by rw [upd_ne (fun q => by subst q; rw [hu] at h; cases h; exact h2 fv)]; exact h, fun _ _ h => h⟩
theorem ObRep.fz {G : Gx} {W W' : Wd} (z : Fz W.hot W.rho W.H W'.hot W'.rho W'.H) {a : Addr} (ha : ∀ u, W.H a = some u → W'.H a = some u) : ∀ {o : Ob}, ObRep G W a o → ObRep G W' a o
  | .lst _, ⟨xs, h, r⟩ => ⟨xs, ha _ h, RepX.mono z r⟩
  | .dct _, ⟨l, h, r⟩ => ⟨l, ha _ h, RepF.mono (fun _ _ r => RepX.mono z r) r⟩
  | .ins _ _, ⟨Ca, dx, l, g, h, r⟩ => ⟨Ca, dx, l, g, ha _ h, RepF.mono (fun _ _ r => RepX.mono z r) r⟩
  | .tab _ _ _, h => TabRep.fz z h ha
  | .exn _ none, ⟨Ca, g, h⟩ => ⟨Ca, g, ha _ h⟩
  | .exn _ (some _), ⟨Ca, dx, g, r, h⟩ => ⟨Ca, dx, g, z.pre _ _ r, ha _ h⟩
  | .xdc _, ⟨l, h, r⟩ => ⟨l, ha _ h, RepF.mono (fun _ _ r => RepX.mono z r) r⟩
/-- an own list changes -/
theorem Emb.mutOwn {G : Gx} {B W : Wd} {σ : L2.St} {s : Ls} (e : Emb G B W σ s) {i : Nat} {ds : List Dv} (h : s.loc[i]? = some (.own ds)) {l : Addr} (hl : σ[i]? = some (some (.ref l))) {xs' : List V} {ds' : List Dv} (r : RepL G W xs' ds') :
    Emb G B { W with H := upd W.H l (.lst xs') } σ { s with loc := s.loc.set i (.own ds') } ∧ Stp W { W with H := upd W.H l (.lst xs') } := by
  obtain ⟨a, xs, h1, h2, h3, h4, h5, h6⟩ := e.own i ds h
  rw [hl] at h1
  injection h1 with h1; injection h1 with h1; injection h1 with h1
  subst h1
  have hi : i < s.loc.length := (List.getElem?_eq_some_iff.mp h).1
  have z : Fz W.hot W.rho W.H W.hot W.rho (upd W.H l (.lst xs')) := Fz.mut h4 h2 (fun _ q => by cases q) (fun q => by cases q)
  have ne : ∀ b u, W.H b = some u → b ≠ l → (upd W.H l (.lst xs')) b = some u := fun b u q n => by rw [upd_ne n]; exact q
  have old : ∀ (k : Nat) es, (s.loc.set i (Sl.own ds'))[k]? = some (Sl.own es) → (k = i ∧ es = ds') ∨ (k ≠ i ∧ s.loc[k]? = some (Sl.own es)) := fun k es hk => by
    by_cases hki : i = k
    · subst hki
      rw [List.getElem?_set_self hi] at hk
      cases hk
      exact .inl ⟨rfl, rfl⟩
    · rw [List.getElem?_set_ne hki] at hk
      exact .inr ⟨fun q => hki q.symm, hk⟩
  have old' : ∀ (k : Nat) es, (s.loc.set i (Sl.own ds'))[k]? = some (Sl.own es) → ∃ es', s.loc[k]? = some (Sl.own es') := fun k es hk => by
    rcases old k es hk with ⟨rfl, rfl⟩ | ⟨_, q⟩
    · exact ⟨_, h⟩
    · exact ⟨_, q⟩
  refine ⟨⟨⟨e.wok.nd, e.wok.len, fun b hb => ?_, e.wok.hotr, fun n o b g1 g2 => ?_⟩, e.mem, by rw [List.length_set]; exact e.len, fun j d hj => ?_, fun j es hj => ?_, fun j k es fs b g1 g2 g3 g4 => ?_, ?_, e.bhot, e.tmpL, fun n es b g1 g2 => ?_, e.tmpN, fun j es b g1 g2 => ?_⟩, z, fun _ _ h => h⟩
  · obtain ⟨o, q⟩ := e.wok.hotd b hb
    by_cases hbl : b = l
    · subst hbl; exact ⟨_, upd_same⟩
    · exact ⟨o, ne b o q hbl⟩
  · refine (e.wok.cells n o b g1 g2).fz (W' := { W with H := upd W.H l (.lst xs') }) z fun u q => ne b u q fun hb => ?_
    subst hb
    exact h5 (List.mem_of_getElem? g2)
  · have hj' : s.loc[j]? = some (Sl.val d) := by
      by_cases hji : i = j
      · subst hji
        rw [List.getElem?_set_self hi] at hj
        cases hj
      · rw [List.getElem?_set_ne hji] at hj
        exact hj
    obtain ⟨v, q1, q2⟩ := e.val j d hj'
    exact ⟨v, q1, RepX.mono z q2⟩
  · rcases old j es hj with ⟨rfl, rfl⟩ | ⟨n1, n2⟩
    · exact ⟨l, xs', hl, upd_same, RepX.mono z r, h4, h5, h6⟩
    · obtain ⟨b, ys, q1, q2, q3, q4, q5, q6⟩ := e.own j es n2
      exact ⟨b, ys, q1, ne b _ q2 (fun hb => by subst hb; exact n1 (e.ownI j i es ds _ n2 h q1 hl)), RepX.mono z q3, q4, q5, q6⟩
  · obtain ⟨es', q1⟩ := old' j es g1
    obtain ⟨fs', q2⟩ := old' k fs g2
    exact e.ownI j k es' fs' b q1 q2 g3 g4
  · have c := e.stp
    have nb : ∀ b u, B.H b = some u → b ≠ l := fun b u q hb => by subst hb; rw [h6] at q; cases q
    refine ⟨fun b o q n => ne b o (c.keep b o q n) (nb b o q), fun b ys q => ne b _ (c.tups b ys q) (nb b _ q), fun b o u q => ne b _ (c.frzs b o u q) (nb b _ q), c.pre, c.hotB, c.hotN, c.rhoN, fun b o q => ?_⟩
    obtain ⟨o', q'⟩ := c.dom b o q
    exact ⟨o', ne b o' q' (nb b o q)⟩
  · obtain ⟨⟨ys, q1, q2⟩, q3, q4, q5⟩ := e.tmpO n es b g1 g2
    exact ⟨⟨ys, ne b _ q1 (fun hb => by subst hb; exact e.tmpS i ds _ h hl (List.mem_of_getElem? g2)), RepX.mono z q2⟩, q3, q4, q5⟩
  · obtain ⟨es', q1⟩ := old' j es g1
    exact e.tmpS j es' b q1 g2
/-- an object of the store changes -/
theorem Emb.mutCell {G : Gx} {B W : Wd} {σ : L2.St} {s : Ls} (e : Emb G B W σ s) {n : Nat} {l : Addr} (hr : W.rho[n]? = some l) {o : Ob} (hm : W.mem[n]? = some o) {u u' : HO} (hu : W.H l = some u) (h1 : ∀ xs, u ≠ .tup xs) (h2 : ¬ Fixed u) {o' : Ob}
    (r : ObRep G { W with H := upd W.H l u', mem := W.mem.set n o' } l o') :
    Emb G B { W with H := upd W.H l u', mem := W.mem.set n o' } σ { s with mem := s.mem.set n o' } ∧ Stp W { W with H := upd W.H l u', mem := W.mem.set n o' } := by
  have hot : W.hot l := e.wok.hotr l (List.mem_of_getElem? hr)
  have z : Fz W.hot W.rho W.H W.hot W.rho (upd W.H l u') := Fz.mut hot hu h1 h2
  have ne : ∀ b v, W.H b = some v → b ≠ l → (upd W.H l u') b = some v := fun b v q k => by rw [upd_ne k]; exact q
  have hn : n < W.mem.length := (List.getElem?_eq_some_iff.mp hm).1
  have inr : l ∈ W.rho := List.mem_of_getElem? hr
  refine ⟨⟨⟨e.wok.nd, by show W.rho.length = (W.mem.set n o').length; rw [List.length_set]; exact e.wok.len, fun b hb => ?_, e.wok.hotr, fun m ob b g1 g2 => ?_⟩, by show s.mem.set n o' = W.mem.set n o'; rw [e.mem], e.len, fun j d hj => ?_, fun j es hj => ?_, e.ownI, ?_, e.bhot, e.tmpL, fun m es b g1 g2 => ?_, e.tmpN, e.tmpS⟩, z, fun _ _ h => h⟩
  · obtain ⟨ob, q⟩ := e.wok.hotd b hb
    by_cases hbl : b = l
    · subst hbl; exact ⟨_, upd_same⟩
    · exact ⟨ob, ne b ob q hbl⟩
  · have g1' : (W.mem.set n o')[m]? = some ob := g1
    have g2' : W.rho[m]? = some b := g2
    by_cases hmn : n = m
    · subst hmn
      rw [List.getElem?_set_self hn] at g1'
      cases g1'
      rw [hr] at g2'
      cases g2'
      exact r
    · rw [List.getElem?_set_ne hmn] at g1'
      refine (e.wok.cells m ob b g1' g2').fz (W' := { W with H := upd W.H l u', mem := W.mem.set n o' }) z fun v q => ne b v q fun hb => ?_
      subst hb
      have hlt : n < W.rho.length := (List.getElem?_eq_some_iff.mp hr).1
      exact hmn ((List.getElem?_inj hlt e.wok.nd).mp (hr.trans g2'.symm))
  · obtain ⟨v, q1, q2⟩ := e.val j d hj
    exact ⟨v, q1, RepX.mono z q2⟩
  · obtain ⟨b, ys, q1, q2, q3, q4, q5, q6⟩ := e.own j es hj
    exact ⟨b, ys, q1, ne b _ q2 (fun hb => by subst hb; exact q5 inr), RepX.mono z q3, q4, q5, q6⟩
  · have c := e.stp
    have nb : ∀ b v, B.H b = some v → b ∉ B.rho → b ≠ l := fun b v q k hb => by
      subst hb
      rcases c.rhoN _ inr with h | h
      · exact k h
      · rw [q] at h; cases h
    have nt : ∀ b v, W.H b = some v → (∃ ys, v = HO.tup ys) ∨ Fixed v → b ≠ l := fun b v q k hb => by
      subst hb
      rw [hu] at q
      cases q
      rcases k with ⟨ys, k⟩ | k
      · exact h1 _ k
      · exact h2 k
    refine ⟨fun b v q k => ne b v (c.keep b v q k) (nb b v q k), fun b ys q => ne b _ (c.tups b ys q) (nt b _ (c.tups b ys q) (.inl ⟨_, rfl⟩)), fun b v fv q => ne b _ (c.frzs b v fv q) (nt b _ (c.frzs b v fv q) (.inr fv)), c.pre, c.hotB, c.hotN, c.rhoN, fun b v q => ?_⟩
    obtain ⟨v', q'⟩ := c.dom b v q
    by_cases hbl : b = l
    · subst hbl; exact ⟨_, upd_same⟩
    · exact ⟨v', ne b v' q' hbl⟩
  · obtain ⟨⟨ys, q1, q2⟩, q3, q4, q5⟩ := e.tmpO m es b g1 g2
    exact ⟨⟨ys, ne b _ q1 (fun hb => by subst hb; exact q4 inr), RepX.mono z q2⟩, q3, q4, q5⟩

/-! ### a list that may change: a name's own, or one of the store -/
def Rd.list (r : Rd) (s : Ls) : Option (List Dv) := match r with
  | .slot i => match s.loc[i]? with
    | some (.own ds) => some ds
    | some (.val (.ref n)) => (match s.mem[n]? with
      | some (.lst ds) => some ds
      | _ => none)
    | _ => none
  | .dv (.ref n) => match s.mem[n]? with
    | some (.lst ds) => some ds
    | _ => none
  | _ => none
def Rd.put (r : Rd) (ds' : List Dv) (s : Ls) : Ls := match r with
  | .slot i => match s.loc[i]? with
    | some (.own _) => { s with loc := s.loc.set i (.own ds') }
    | some (.val (.ref n)) => { s with mem := s.mem.set n (.lst ds') }
    | _ => s
  | .dv (.ref n) => { s with mem := s.mem.set n (.lst ds') }
  | _ => s
theorem Emb.putCell {G : Gx} {B W : Wd} {σ : L2.St} {s : Ls} (e : Emb G B W σ s) {v : V} {n : Nat} (hv : Rep G W v (.ref n)) {ds : List Dv} (hm : s.mem[n]? = some (.lst ds)) :
    ∃ l xs, v = .ref l ∧ W.H l = some (.lst xs) ∧ RepL G W xs ds ∧ ∀ xs' ds', RepL G W xs' ds' → ∃ W', W'.H = upd W.H l (.lst xs') ∧ Emb G B W' σ { s with mem := s.mem.set n (.lst ds') } ∧ Stp W W' := by
  cases hv with
  | ref hr =>
    rw [e.mem] at hm
    obtain ⟨xs, q1, q2⟩ := e.wok.cells n _ _ hm hr
    refine ⟨_, xs, rfl, q1, q2, fun xs' ds' r => ?_⟩
    have hot := e.wok.hotr _ (List.mem_of_getElem? hr)
    obtain ⟨a, b⟩ := e.mutCell hr hm q1 (fun _ q => by cases q) (fun q => by cases q) (u' := .lst xs') (o' := .lst ds') ⟨xs', upd_same, RepX.mono (Fz.mut hot q1 (fun _ q => by cases q) (fun q => by cases q)) r⟩
    exact ⟨_, rfl, a, b⟩
theorem Emb.put {G : Gx} {B W : Wd} {σ : L2.St} {s : Ls} (e : Emb G B W σ s) {v : V} {r : Rd} (hv : rR G σ W v r) {ds : List Dv} (hl : r.list s = some ds) :
    ∃ l xs, v = .ref l ∧ W.H l = some (.lst xs) ∧ RepL G W xs ds ∧ ∀ xs' ds', RepL G W xs' ds' → ∃ W', W'.H = upd W.H l (.lst xs') ∧ Emb G B W' σ (r.put ds' s) ∧ Stp W W' := by
  cases r with
  | dv x =>
    cases x <;> first | (simp [Rd.list] at hl; done) | skip
    rename_i n
    simp only [Rd.list] at hl
    split at hl
    · rename_i es hm
      cases hl
      exact e.putCell hv hm
    · cases hl
  | slot i =>
    have hv' : σ[i]? = some (some v) := hv
    simp only [Rd.list] at hl
    split at hl
    · rename_i es hs
      cases hl
      obtain ⟨a, xs, q1, q2, q3, q4, q5, q6⟩ := e.own i ds hs
      rw [hv'] at q1
      injection q1 with q1; injection q1 with q1
      subst q1
      refine ⟨a, xs, rfl, q2, q3, fun xs' ds' rr => ?_⟩
      obtain ⟨g1, g2⟩ := e.mutOwn hs hv' rr
      refine ⟨_, rfl, ?_, g2⟩
      have : Rd.put (.slot i) ds' s = { s with loc := s.loc.set i (.own ds') } := by simp only [Rd.put, hs]
      rw [this]
      exact g1
    · rename_i n hs
      split at hl
      · rename_i es hm
        cases hl
        obtain ⟨w, q1, q2⟩ := e.val i _ hs
        rw [hv'] at q1
        injection q1 with q1; injection q1 with q1
        subst q1
        obtain ⟨l, xs, g1, g2, g3, g4⟩ := e.putCell q2 hm
        refine ⟨l, xs, g1, g2, g3, fun xs' ds' rr => ?_⟩
        have : Rd.put (.slot i) ds' s = { s with mem := s.mem.set n (.lst ds') } := by simp only [Rd.put, hs]
        rw [this]
        exact g4 xs' ds' rr
      · cases hl
    · cases hl
/-- a method that changes its list -/
def PureMut (G : Gx) (r : V → List V → Hp → VK → Prop) (f : List Dv → List Dv → Option (List Dv × Dv)) : Prop := ∀ (W : Wd) l xs ds vs ys ds' z Q, W.H l = some (.lst xs) → RepL G W xs ds → RepL G W vs ys → f ds ys = some (ds', z) → (∀ xs' u, RepL G W xs' ds' → (∀ W' : Wd, Stp W W' → Rep G W' u z) → Q u (upd W.H l (.lst xs'))) → r (.ref l) vs W.H Q
def dMut (f : List Dv → List Dv → Option (List Dv × Dv)) (d : Ls → R Rd) (da : Ls → R (List Dv)) : Ls → R Dv := fun s => (d s).bind fun r s => match r.list s with
  | some _ => (da s).bind fun ys s => (match r.list s with
    | some ds => (match f ds ys with
      | some (ds', z) => .ok z (r.put ds' s)
      | none => .stuck)
    | none => .stuck)
  | none => .stuck
theorem sim_mut {G : Gx} {wish : WX} {te : TE} {ta : TA} {d : Ls → R Rd} {da : Ls → R (List Dv)} {r : V → List V → Hp → VK → Prop} {f : List Dv → List Dv → Option (List Dv × Dv)} (hp : PureMut G r f) (h : Sim G (rR G) wish te d) (ha : Sim G (rL G) wish ta da) : Sim G (rV G) wish (tBM G.K "list" r te ta) (dMut f d da) := fun B W σ s Q e p =>
  h B W σ s _ e (Post.bind (rep := rR G) (rep2 := rV G) p fun x s1 v W1 _ e1 z1 r1 p1 => by
    split at p1
    · rename_i ds0 hl0
      obtain ⟨l, xs, rfl, q1, q2, _⟩ := e1.put r1 hl0
      refine ⟨.inl ⟨rfl, xs, SqL.of q1⟩, ha B W1 σ s1 _ e1 (Post.bind (rep := rL G) (rep2 := rV G) p1 fun ys s2 vs W2 _ e2 z2 r2 p2 => ?_)⟩
      split at p2
      · rename_i ds hl
        split at p2
        · rename_i ds' z hf
          obtain ⟨l', xs', el, g1, g2, g3⟩ := e2.put (r1.mono z2) hl
          cases el
          refine hp W2 l xs' ds vs ys ds' z Q g1 g2 r2 hf fun xs'' u rr ru => ?_
          obtain ⟨W3, k1, k2, k3⟩ := g3 xs'' ds' rr
          rw [← k1]
          exact p2 u W3 k2 k3 (ru W3 k3)
        · exact p2.elim
      · exact p2.elim
    · exact p1.elim)
section
variable {X : Cx} {wish : WX} {o e : Expr} {es : List Expr} {to : TE} {t : TA} {name : Str} {apos cpos : Pos} {id : String} {r : V → List V → Hp → VK → Prop} {f : List Dv → List Dv → Option (List Dv × Dv)} {d : Ls → R Rd} {da : Ls → R (List Dv)}
theorem de_mut (pa : PlainAttrs "list") (slot : Slot "list" name id) (hty : typeOf (.builtin id) = pure (.type "method_descriptor")) (hm : MtR X id r) (hp : PureMut (gx X) r f) (ho : DR X wish o to d) (ha : DA X wish (e :: es) t da)
    (hbase : attributeBase o name X.env (eval o X.env) = eval o X.env := by rfl)
    (hfew : ((backTo cpos (starEach (e :: es) X.env)).all (fun x => !x.1) && (backToKw cpos (keywordEach [] X.env)).all (fun x => x.1.isSome)
      && decide ((e :: es).length + ([] : List Keyword).length + (if ([] : List Keyword).isEmpty then 0 else 1) < 30)) = true := by rfl)
    (hline : (apos.endLine == cpos.line) = true := by rfl) (hs : starEach (e :: es) X.env = (false, eval e X.env) :: starEach es X.env := by rfl) (hplain : (backTo cpos (starEach es X.env)).any (·.1) = false := by rfl) :
    DE X wish (.Call (.Attribute o name apos) (e :: es) [] cpos) (tBM X.K "list" r to t) (dMut f d da) := ⟨pe_bm pa slot hty hm ho.pe ha.pa hbase hfew hline hs hplain, sim_mut hp ho.sim ha.sim⟩
end
def fAppend : List Dv → List Dv → Option (List Dv × Dv)
  | ds, [y] => if ds.length < 16777216 then some (ds ++ [y], .non) else none
  | _, _ => none
theorem pure_append {G : Gx} : PureMut G rAppend fAppend := by
  intro W l xs ds vs ys ds' z Q hl r ra hf k
  cases ra with
  | nil => simp [fAppend] at hf
  | cons r1 r2 =>
    cases r2 with
    | cons _ _ => simp [fAppend] at hf
    | nil =>
      simp only [fAppend] at hf
      split at hf
      · rename_i hz
        cases hf
        exact ⟨l, xs, _, rfl, rfl, hl, by rw [RepL.length r, sizeLine_eq]; exact hz, k _ _ (RepL.append r (.cons r1 .nil)) fun _ _ => .non⟩
      · cases hf
def fPopAt : List Dv → List Dv → Option (List Dv × Dv)
  | ds, [.int i] => if -(2 ^ 63) ≤ i ∧ i < 2 ^ 63 then (match seqIndex? i ds.length with
    | some k => (match ds[k]? with
      | some y => some (ds.eraseIdx k, y)
      | none => none)
    | none => none) else none
  | _, _ => none
theorem pure_popAt {G : Gx} : PureMut G rPopAt fPopAt := by
  intro W l xs ds vs ys ds' z Q hl r ra hf k
  cases ra with
  | nil => simp [fPopAt] at hf
  | cons r1 r2 =>
    rename_i v d vs ds2
    cases r2 with
    | cons _ _ => cases d <;> simp [fPopAt] at hf
    | nil =>
      cases d <;> first | (simp [fPopAt] at hf; done) | skip
      cases r1
      simp only [fPopAt] at hf
      split at hf
      · rename_i hz
        split at hf
        · rename_i j hj
          split at hf
          · rename_i y hy
            cases hf
            obtain ⟨w, g1, g2⟩ := RepL.getD r hy
            exact ⟨l, xs, _, j, w, rfl, rfl, hl, hz.1, hz.2, by rw [RepL.length r]; exact hj, g1, k _ _ (RepL.eraseIdx j r) fun _ y => RepX.mono y.fz g2⟩
          · cases hf
        · cases hf
      · cases hf
/-! o[i] = e on such a list -/
def dSetIx (d : Ls → R Dv) (dr : Ls → R Rd) (di : Ls → R Dv) : Ls → Fl := fun s => (d s).fl fun x s => (dr s).fl fun r s => (di s).fl fun i s => match r.list s, i with
  | some ds, .int k => (match ixN ds.length k with
    | some j => .nx (r.put (ds.set j x) s)
    | none => .stuck)
  | _, _ => .stuck
theorem ds_setIx {X : Cx} {wish : WX} {o i e : Expr} {te to ti : TE} {d di : Ls → R Dv} {dr : Ls → R Rd} {pos tpos : Pos} (h : DE X wish e te d) (ho : DR X wish o to dr) (hi : DE X wish i ti di) (hs : swapsWithSole [.Subscript o i tpos] e pos.line X.env = pure false := by rfl)
    (hw : swappedStores [.Subscript o i tpos] e X.env = pure none := by rfl) (h1 : (assignEach [.Subscript o i tpos] X.env).map (·.2) = [assign (.Subscript o i tpos) X.env] := by rfl)
    (ha : ∀ v, assign (.Subscript o i tpos) X.env v = (do
      let ov ← holding [v] (eval o X.env)
      let iv ← holding [v, ov] (eval i X.env)
      standAt tpos
      holding [v, ov, iv] (setItem ov iv v)
      release [v, ov, iv] []) := by intro _; rfl) : DS X wish (.Assign [.Subscript o i tpos] e pos) (tAsg te (gSub to ti rSetL)) (dSetIx d dr di) := by
  refine ⟨ps_asg h.pe (pg_sub ho.pe hi.pe set_list ha) hs hw h1, fun B W σ s D em p => ?_⟩
  refine h.sim B W σ s _ em (Post.fl (rep := rV (gx X)) p fun x s1 v W1 _ e1 z1 r1 p1 => ?_)
  refine ho.sim B W1 σ s1 _ e1 (Post.fl (rep := rR (gx X)) p1 fun r s2 w W2 _ e2 z2 r2 p2 => ?_)
  refine hi.sim B W2 σ s2 _ e2 (Post.fl (rep := rV (gx X)) p2 fun k s3 u W3 hd3 e3 z3 r3 p3 => ?_)
  split at p3
  · rename_i dd ds kk hl
    split at p3
    · rename_i j hj
      obtain ⟨l, xs, rfl, g1, g2, g3⟩ := e3.put (r2.mono z3) hl
      cases r3
      obtain ⟨W4, k1, k2, k3⟩ := g3 (xs.set j v) (ds.set j x) (RepL.set (RepX.mono (z2.trans z3).fz r1) j g2)
      refine ⟨l, xs, kk, j, rfl, rfl, g1, by rw [RepL.length g2]; exact hj, ?_⟩
      rw [← k1]
      exact p3 σ W4 k2 k3
    · exact p3.elim
  · exact p3.elim
end DD

/-! D7: what is walked; for; while; list comprehensions -/
namespace DD
open PySem L2
open PyProof.Rows hiding St

/-- what a loop walks: the items, and whether the store's source stands as it stood -/
structure Src where
  items : List Dv
  chk : List Ob → Bool
structure ItOk (G : Gx) (W0 : Wd) (J : It) (src : Src) : Prop where
  go : ∀ W, Stp W0 W → WOk G W → src.chk W.mem = true → ∀ (i : Nat) d, src.items[i]? = some d → J.go i W.H ∧ ∀ x H', J.yld i W.H x H' → Same W.H H' ∧ RepX G W.hot W.rho H' false x d [] []
  stop : ∀ W, Stp W0 W → WOk G W → src.chk W.mem = true → J.stop src.items.length W.H
theorem ItOk.mono {G : Gx} {W W' : Wd} {J : It} {src : Src} (h : ItOk G W J src) (z : Stp W W') : ItOk G W' J src := ⟨fun W1 y => h.go W1 (z.trans y), fun W1 y => h.stop W1 (z.trans y)⟩
def rI (G : Gx) : L2.St → Wd → It → Src → Prop := fun _ W J src => ItOk G W J src
structure DI (X : Cx) (wish : WX) (tg iter : Expr) (wi : TI) (d : Ls → R Src) : Prop where
  pi : PI X tg iter wi
  sim : Sim (gx X) (rI (gx X)) wish wi d
def always : List Ob → Bool := fun _ => true
/-! a list or a tuple, whole -/
theorem itOk_list {G : Gx} {W0 : Wd} {a : Addr} {xs : List V} {ds : List Dv} (h : W0.H a = some (.lst xs)) (hn : ¬ W0.hot a) (r : RepL G W0 xs ds) : ItOk G W0 (Itl G.K a) ⟨ds, always⟩ where
  go := fun W z ok _ i d hd => by
    have h1 : W.H a = some (.lst xs) := z.fz.cold _ _ hn h
    obtain ⟨v, q1, q2⟩ := RepL.getD (RepX.mono z.fz r) hd
    refine ⟨⟨xs, v, SqL.of h1, q1⟩, fun x H' y => ?_⟩
    obtain ⟨e, y⟩ := y
    subst e
    have := y xs (SqL.of h1)
    rw [q1] at this
    cases this
    exact ⟨Same.refl _, q2⟩
  stop := fun W z ok _ => ⟨xs, SqL.of (z.fz.cold _ _ hn h), by rw [RepL.length r]; exact Nat.le_refl _⟩
theorem itOk_tup {G : Gx} {W0 : Wd} {a : Addr} {xs : List V} {ds : List Dv} (h : SqT G.K W0.H a xs) (r : RepL G W0 xs ds) : ItOk G W0 (Itt G.K a) ⟨ds, always⟩ where
  go := fun W z ok _ i d hd => by
    have h1 := z.fz.seqT h
    obtain ⟨v, q1, q2⟩ := RepL.getD (RepX.mono z.fz r) hd
    refine ⟨⟨xs, v, h1, q1⟩, fun x H' y => ?_⟩
    obtain ⟨e, y⟩ := y
    subst e
    have := y xs h1
    rw [q1] at this
    cases this
    exact ⟨Same.refl _, q2⟩
  stop := fun W z ok _ => ⟨xs, z.fz.seqT h, by rw [RepL.length r]; exact Nat.le_refl _⟩
/-- the walked thing by its value: a list or a tuple -/
def iSeq (K : PySem.W.Frag) (te : TE) : TI := fun σ H R => iList K te σ H R ∨ iTup K te σ H R ∨ iStr te σ H R
theorem PI.or {X : Cx} {tg iter : Expr} {wi wj : TI} (h : PI X tg iter wi) (h' : PI X tg iter wj) : PI X tg iter (fun σ H R => wi σ H R ∨ wj σ H R) := ⟨fun pins s σ H R I q => q.elim (h.run pins s σ H R I) (h'.run pins s σ H R I)⟩
theorem pi_seq {X : Cx} {tg l : Expr} {te : TE} (h : PE X l te) : PI X tg l (iSeq X.K te) := PI.or (pi_list h) (PI.or (pi_tup h) (pi_str h))
def dSrc (d : Ls → R Dv) : Ls → R Src := fun s => (d s).bind fun x s => match x with
  | .lst ds => .ok ⟨ds, always⟩ s
  | .tup ds => .ok ⟨ds, always⟩ s
  | .str x => .ok ⟨x.cps.toList.map fun c => .str ⟨#[c]⟩, always⟩ s
  | _ => .stuck
theorem itOk_str {G : Gx} {W0 : Wd} {x : Str} : ItOk G W0 (Its x) ⟨x.cps.toList.map fun c => .str ⟨#[c]⟩, always⟩ where
  go := fun W z ok _ i d hd => by
    rw [List.getElem?_map] at hd
    obtain ⟨c, hc, rfl⟩ := Option.map_eq_some_iff.mp hd
    have hc' : x.cps[i]? = some c := by simpa using hc
    refine ⟨(Array.getElem?_eq_some_iff.mp hc').1, fun v H' y => ?_⟩
    obtain ⟨e, c', h1, rfl⟩ := y
    subst e
    rw [hc'] at h1
    cases h1
    exact ⟨Same.refl _, .str _⟩
  stop := fun W z ok _ => by show x.cps.size ≤ _; simp
theorem sim_src {G : Gx} {wish : WX} {te : TE} {d : Ls → R Dv} (h : Sim G (rV G) wish te d) : Sim G (rI G) wish (iSeq G.K te) (dSrc d) := fun B W σ s Q e p => by
  cases hd : d s with
  | stuck => simp only [dSrc, hd] at p; exact p.elim
  | err x s1 =>
    simp only [dSrc, hd] at p
    exact .inl (h B W σ s _ e (by rw [hd]; exact p))
  | ok x s1 =>
    have p0 := p
    simp only [dSrc, hd] at p0
    cases x <;> first | exact p0.elim | skip
    · exact .inr (.inr (h B W σ s _ e (by rw [hd]; exact fun v W1 e1 z1 r1 => (by cases r1; exact ⟨_, rfl, p0 _ W1 e1 z1 itOk_str⟩))))
    · exact .inr (.inl (h B W σ s _ e (by rw [hd]; exact fun v W1 e1 z1 r1 => (by cases r1 with | tup q1 q2 => exact ⟨_, rfl, ⟨_, q1⟩, p0 _ W1 e1 z1 (itOk_tup q1 q2)⟩))))
    · exact .inl (h B W σ s _ e (by rw [hd]; exact fun v W1 e1 z1 r1 => (by cases r1 with | lst q1 q2 q3 => exact ⟨_, rfl, ⟨_, SqL.of q1⟩, p0 _ W1 e1 z1 (itOk_list q1 q2 q3)⟩)))
theorem di_seq {X : Cx} {wish : WX} {tg l : Expr} {te : TE} {d : Ls → R Dv} (h : DE X wish l te d) : DI X wish tg l (iSeq X.K te) (dSrc d) := ⟨pi_seq h.pe, sim_src h.sim⟩
/-! range -/
def rngOk (j : Int) : Bool := decide (-(2 ^ 62) ≤ j ∧ j < 2 ^ 62)
def rngItems (lo : Int) (n : Nat) : List Dv := (List.range n).map fun (i : Nat) => .int (lo + i)
theorem itOk_range {G : Gx} {W0 : Wd} {lo : Int} {n : Nat} : ItOk G W0 (Itr lo n) ⟨rngItems lo n, always⟩ where
  go := fun W z ok _ i d hd => by
    unfold rngItems at hd
    rw [List.getElem?_map] at hd
    obtain ⟨k, hk, rfl⟩ := Option.map_eq_some_iff.mp hd
    obtain ⟨hlt, hk⟩ := List.getElem?_eq_some_iff.mp hk
    rw [List.length_range] at hlt
    rw [List.getElem_range] at hk
    subst hk
    refine ⟨hlt, fun x H' y => ?_⟩
    obtain ⟨e, y⟩ := y
    subst e y
    exact ⟨Same.refl _, .int _⟩
  stop := fun W z ok _ => by show n ≤ (rngItems lo n).length; unfold rngItems; rw [List.length_map, List.length_range]; exact Nat.le_refl _
def dRng1 (d : Ls → R (List Dv)) : Ls → R Src := fun s => (d s).bind fun xs s => match xs with
  | [.int j] => if rngOk j = true then .ok ⟨rngItems 0 j.toNat, always⟩ s else .stuck
  | _ => .stuck
def dRng2 (d : Ls → R (List Dv)) : Ls → R Src := fun s => (d s).bind fun xs s => match xs with
  | [.int i, .int j] => if (rngOk i && rngOk j) = true then .ok ⟨rngItems i (j - i).toNat, always⟩ s else .stuck
  | _ => .stuck
section
variable {X : Cx} {wish : WX} {tg a b : Expr} {ta : TA} {d : Ls → R (List Dv)} {p pos : Pos}
theorem di_range1 (hg : Gl X "range") (hm : X.mg "range" = none) (ha : DA X wish [a] ta d) (hs : starEach [a] X.env = [(false, eval a X.env)] := by rfl) : DI X wish tg (.Call (.Name "range" p) [a] [] pos) (iRng1 ta) (dRng1 d) := ⟨pi_range1 hg hm ha.pa hs, fun B W σ s Q e p =>
  ha.sim B W σ s _ e (Post.bind (rep := rL (gx X)) (rep2 := rI (gx X)) p fun xs s1 vs W1 _ e1 z1 r1 p1 => by
    split at p1
    · rename_i j _
      split at p1
      · rename_i hz
        cases r1 with
        | cons r r2 =>
          cases r2; cases r
          obtain ⟨h1, h2⟩ := of_decide_eq_true hz
          exact ⟨j, rfl, h1, h2, p1 _ W1 e1 Stp.refl itOk_range⟩
      · exact p1.elim
    · exact p1.elim)⟩
theorem di_range2 (hg : Gl X "range") (hm : X.mg "range" = none) (ha : DA X wish [a, b] ta d) (hs : starEach [a, b] X.env = [(false, eval a X.env), (false, eval b X.env)] := by rfl) (hs2 : starEach [b] X.env = [(false, eval b X.env)] := by rfl) : DI X wish tg (.Call (.Name "range" p) [a, b] [] pos) (iRng2 ta) (dRng2 d) := ⟨pi_range2 hg hm ha.pa hs hs2, fun B W σ s Q e p =>
  ha.sim B W σ s _ e (Post.bind (rep := rL (gx X)) (rep2 := rI (gx X)) p fun xs s1 vs W1 _ e1 z1 r1 p1 => by
    split at p1
    · rename_i i j _
      split at p1
      · rename_i hz
        rw [Bool.and_eq_true] at hz
        cases r1 with
        | cons r r2 => cases r2 with
          | cons r' r3 =>
            cases r3; cases r'; cases r
            obtain ⟨h1, h2⟩ := of_decide_eq_true hz.1
            obtain ⟨h3, h4⟩ := of_decide_eq_true hz.2
            exact ⟨i, j, rfl, ⟨h1, h2, h3, h4⟩, p1 _ W1 e1 Stp.refl itOk_range⟩
      · exact p1.elim
    · exact p1.elim)⟩
end
/-! enumerate of a list; zip of two -/
def enumItems (k : Int) : Nat → List Dv → List Dv
  | _, [] => []
  | n, d :: ds => .tup [.int (k + n), d] :: enumItems k (n + 1) ds
theorem enumItems_get (k : Int) : ∀ (n : Nat) (ds : List Dv) (i : Nat), (enumItems k n ds)[i]? = ds[i]?.map fun d => .tup [.int (k + ((n + i : Nat) : Int)), d]
  | _, [], i => by simp [enumItems]
  | n, d :: ds, 0 => by simp [enumItems]
  | n, d :: ds, i + 1 => by
    rw [enumItems, List.getElem?_cons_succ, List.getElem?_cons_succ, enumItems_get k (n + 1) ds i]
    congr 1
    funext x
    rw [show n + 1 + i = n + (i + 1) by omega]
theorem enumItems_length (k : Int) : ∀ (n : Nat) (ds : List Dv), (enumItems k n ds).length = ds.length
  | _, [] => rfl
  | n, d :: ds => by rw [enumItems, List.length_cons, List.length_cons, enumItems_length k (n + 1) ds]
theorem itOk_enum {G : Gx} {W0 : Wd} {a : Addr} {xs : List V} {ds : List Dv} (h : W0.H a = some (.lst xs)) (hn : ¬ W0.hot a) (r : RepL G W0 xs ds) : ItOk G W0 (Ite G.K a) ⟨enumItems 0 0 ds, always⟩ where
  go := fun W z ok _ i d hd => by
    have h1 : W.H a = some (.lst xs) := z.fz.cold _ _ hn h
    rw [enumItems_get] at hd
    obtain ⟨d', hd', rfl⟩ := Option.map_eq_some_iff.mp hd
    obtain ⟨v, q1, q2⟩ := RepL.getD (RepX.mono z.fz r) hd'
    refine ⟨⟨xs, v, SqL.of h1, q1⟩, fun x H' y => ?_⟩
    obtain ⟨T, x', rfl, hT, rfl, y⟩ := y
    have := y xs (SqL.of h1)
    rw [q1] at this
    cases this
    refine ⟨Same.upd hT, new_tup (W := W) hT (.cons ?_ (.cons q2 .nil))⟩
    rw [show (0 : Int) + ((0 + i : Nat) : Int) = ((i : Nat) : Int) by omega]
    exact .int _
  stop := fun W z ok _ => ⟨xs, SqL.of (z.fz.cold _ _ hn h), by show xs.length ≤ (enumItems 0 0 ds).length; rw [enumItems_length, RepL.length r]; exact Nat.le_refl _⟩
def dEnum (d : Ls → R (List Dv)) : Ls → R Src := fun s => (d s).bind fun xs s => match xs with
  | [.lst ds] => .ok ⟨enumItems 0 0 ds, always⟩ s
  | _ => .stuck
theorem di_enum {X : Cx} {wish : WX} {e : Expr} {ta : TA} {d : Ls → R (List Dv)} {p pos tpos : Pos} {elts : List Expr} {kk : Nat} (hg : Gl X "enumerate") (hm : X.mg "enumerate" = none) (ha : DA X wish [e] ta d) (hs : starEach [e] X.env = [(false, eval e X.env)] := by rfl) :
    DI X wish (.Tuple elts kk tpos) (.Call (.Name "enumerate" p) [e] [] pos) (iEnum X.K ta) (dEnum d) := ⟨pi_enum hg hm ha.pa hs, fun B W σ s Q e p =>
  ha.sim B W σ s _ e (Post.bind (rep := rL (gx X)) (rep2 := rI (gx X)) p fun xs s1 vs W1 _ e1 z1 r1 p1 => by
    split at p1
    · rename_i ds
      cases r1 with
      | cons r r2 =>
        cases r2
        cases r with
        | lst q1 q2 q3 => exact ⟨_, _, rfl, SqL.of q1, p1 _ W1 e1 Stp.refl (itOk_enum q1 q2 q3)⟩
    · exact p1.elim)⟩
def zipItems : List Dv → List Dv → List Dv
  | d :: ds, e :: es => .tup [d, e] :: zipItems ds es
  | _, _ => []
theorem zipItems_get : ∀ (ds es : List Dv) (i : Nat) (x : Dv), (zipItems ds es)[i]? = some x → ∃ d e, ds[i]? = some d ∧ es[i]? = some e ∧ x = .tup [d, e]
  | [], es, i, x, h => by simp [zipItems] at h
  | d :: ds, [], i, x, h => by simp [zipItems] at h
  | d :: ds, e :: es, 0, x, h => by simp [zipItems] at h; exact ⟨d, e, rfl, rfl, h.symm⟩
  | d :: ds, e :: es, i + 1, x, h => by
    rw [zipItems, List.getElem?_cons_succ] at h
    obtain ⟨d', e', h1, h2, h3⟩ := zipItems_get ds es i x h
    exact ⟨d', e', by simpa using h1, by simpa using h2, h3⟩
theorem zipItems_length : ∀ (ds es : List Dv), (zipItems ds es).length = min ds.length es.length
  | [], es => by simp [zipItems]
  | d :: ds, [] => by simp [zipItems]
  | d :: ds, e :: es => by rw [zipItems, List.length_cons, List.length_cons, List.length_cons, zipItems_length ds es]; omega
theorem itOk_zip {G : Gx} {W0 : Wd} {a b : Addr} {xs ys : List V} {ds es : List Dv} (h : W0.H a = some (.lst xs)) (hn : ¬ W0.hot a) (r : RepL G W0 xs ds) (h' : W0.H b = some (.lst ys)) (hn' : ¬ W0.hot b) (r' : RepL G W0 ys es) : ItOk G W0 (Itz G.K a b) ⟨zipItems ds es, always⟩ where
  go := fun W z ok _ i d hd => by
    have h1 : W.H a = some (.lst xs) := z.fz.cold _ _ hn h
    have h2 : W.H b = some (.lst ys) := z.fz.cold _ _ hn' h'
    obtain ⟨d', e', g1, g2, rfl⟩ := zipItems_get ds es i d hd
    obtain ⟨v, q1, q2⟩ := RepL.getD (RepX.mono z.fz r) g1
    obtain ⟨w, q3, q4⟩ := RepL.getD (RepX.mono z.fz r') g2
    refine ⟨⟨xs, ys, v, w, SqL.of h1, SqL.of h2, q1, q3⟩, fun x H' y => ?_⟩
    obtain ⟨T, x', y', rfl, hT, rfl, k1, k2⟩ := y
    have e1 := k1 xs (SqL.of h1)
    rw [q1] at e1
    have e2 := k2 ys (SqL.of h2)
    rw [q3] at e2
    cases e1; cases e2
    exact ⟨Same.upd hT, new_tup (W := W) hT (.cons q2 (.cons q4 .nil))⟩
  stop := fun W z ok _ => ⟨xs, ys, SqL.of (z.fz.cold _ _ hn h), SqL.of (z.fz.cold _ _ hn' h'), by show xs.length ≤ (zipItems ds es).length ∨ ys.length ≤ (zipItems ds es).length; rw [zipItems_length, RepL.length r, RepL.length r']; omega⟩
def dZip (d : Ls → R (List Dv)) : Ls → R Src := fun s => (d s).bind fun xs s => match xs with
  | [.lst ds, .lst es] => .ok ⟨zipItems ds es, always⟩ s
  | _ => .stuck
theorem di_zip {X : Cx} {wish : WX} {e e2 : Expr} {ta : TA} {d : Ls → R (List Dv)} {p pos tpos : Pos} {elts : List Expr} {kk : Nat} (hg : Gl X "zip") (hm : X.mg "zip" = none) (ha : DA X wish [e, e2] ta d)
    (hs : starEach [e, e2] X.env = (false, eval e X.env) :: starEach [e2] X.env := by rfl) (hpl : (backTo pos (starEach [e2] X.env)).any (·.1) = false := by rfl) :
    DI X wish (.Tuple elts kk tpos) (.Call (.Name "zip" p) [e, e2] [] pos) (iZip X.K ta) (dZip d) := ⟨pi_zip hg hm ha.pa hs hpl, fun B W σ s Q e p =>
  ha.sim B W σ s _ e (Post.bind (rep := rL (gx X)) (rep2 := rI (gx X)) p fun xs s1 vs W1 _ e1 z1 r1 p1 => by
    split at p1
    · rename_i ds es
      cases r1 with
      | cons r r2 => cases r2 with
        | cons r' r3 =>
          cases r3
          cases r with
          | lst q1 q2 q3 => cases r' with
            | lst k1 k2 k3 => exact ⟨_, _, _, _, rfl, SqL.of q1, SqL.of k1, p1 _ W1 e1 Stp.refl (itOk_zip q1 q2 q3 k1 k2 k3)⟩
    · exact p1.elim)⟩

/-! ### for -/
def dForGo (chk : List Ob → Bool) (g : Dv → Ls → Option Ls) (body : Ls → Fl) : List Dv → Ls → Fl
  | [], s => if chk s.mem = true then .nx s else .stuck
  | d :: ds, s => if chk s.mem = true then (match g d s with
    | some s1 => (match body s1 with
      | .nx s2 => dForGo chk g body ds s2
      | .ct s2 => dForGo chk g body ds s2
      | .bk s2 => .nx s2
      | .rt x s2 => .rt x s2
      | .er x s2 => .er x s2
      | .stuck => .stuck)
    | none => .stuck) else .stuck
def dFor (src : Ls → R Src) (g : Dv → Ls → Option Ls) (body : Ls → Fl) : Ls → Fl := fun s => (src s).fl fun sc s => dForGo sc.chk g body sc.items s
theorem sim_for {G : Gx} {wish : WX} {wi : TI} {g : TG} {tv : List Nat} {tb : TS} {src : Ls → R Src} {dg : Dv → Ls → Option Ls} {body : Ls → Fl} (hi : Sim G (rI G) wish wi src) (hg : SimG G g tv dg) (hb : SimS G wish tb body) : SimS G wish (tFor wi g tb) (dFor src dg body) := fun B W σ s D e p => by
  refine hi B W σ s _ e (Post.fl (rep := rI G) p fun sc s1 J W1 _ e1 z1 r1 p1 => ?_)
  refine ⟨fun i m σ' H' => m = sc.items.length - i ∧ i ≤ sc.items.length ∧ ∃ W' s', W'.H = H' ∧ Emb G B W' σ' s' ∧ Stp W1 W' ∧ PostS G B W' wish D (dForGo sc.chk dg body (sc.items.drop i) s'), ⟨_, rfl, Nat.zero_le _, W1, s1, rfl, e1, Stp.refl, by simpa using p1⟩, ?_⟩
  rintro i m σ' H' ⟨rfl, hle, W', s', rfl, e', z', p'⟩
  by_cases hlt : i < sc.items.length
  · right
    rw [List.drop_eq_getElem_cons hlt] at p'
    unfold dForGo at p'
    split at p'
    · rename_i hc
      split at p'
      · rename_i s2 hs2
        obtain ⟨go, yld⟩ := r1.go W' z' e'.wok (by rw [← e'.mem]; exact hc) i sc.items[i] (by simp [hlt])
        refine ⟨go, fun σ2 H2 => (sc.items.length - (i + 1) < sc.items.length - i) ∧ ∃ W2 s3, W2.H = H2 ∧ Emb G B W2 σ2 s3 ∧ Stp W1 W2 ∧ PostS G B W2 wish D (dForGo sc.chk dg body (sc.items.drop (i + 1)) s3), fun σ2 H2 h => ⟨sc.items.length - (i + 1), h.1, rfl, by omega, h.2⟩, fun x H2 y => ?_⟩
        obtain ⟨sm, rp⟩ := yld x H2 y
        have e2 := e'.grow sm
        refine hg B (W'.gr H2) σ' s' x _ s2 _ e2 rp hs2 fun σ3 W3 e3 z3 _ => ?_
        have zz : Stp W' W3 := (Stp.grow sm).trans z3
        refine hb B W3 σ3 s2 _ e3 ?_
        cases hbd : body s2 with
        | nx s4 => rw [hbd] at p'; exact fun σ4 W4 e4 z4 => ⟨by omega, W4, s4, rfl, e4, (z'.trans zz).trans z4, p'.step (zz.trans z4)⟩
        | ct s4 => rw [hbd] at p'; exact fun σ4 W4 e4 z4 => ⟨by omega, W4, s4, rfl, e4, (z'.trans zz).trans z4, p'.step (zz.trans z4)⟩
        | bk s4 => rw [hbd] at p'; exact fun σ4 W4 e4 z4 => p' σ4 W4 e4 (zz.trans z4)
        | rt x4 s4 => rw [hbd] at p'; exact fun σ4 v W4 e4 z4 r4 => p' σ4 v W4 e4 (zz.trans z4) r4
        | er x4 s4 => rw [hbd] at p'; exact fun σ4 c dx W4 e4 z4 r4 => p' σ4 c dx W4 e4 (zz.trans z4) r4
        | stuck => rw [hbd] at p'; exact p'
      · exact p'.elim
    · exact p'.elim
  · left
    have hi' : i = sc.items.length := by omega
    subst hi'
    rw [List.drop_eq_nil_of_le (Nat.le_refl _)] at p'
    unfold dForGo at p'
    split at p'
    · rename_i hc
      exact ⟨r1.stop W' z' e'.wok (by rw [← e'.mem]; exact hc), p' σ' W' e' Stp.refl⟩
    · exact p'.elim
theorem ds_for {X : Cx} {wish : WX} {tg iter : Expr} {body : List Stmt} {wi : TI} {g : TG} {tv : List Nat} {tb : TS} {pos : Pos} {src : Ls → R Src} {dg : Dv → Ls → Option Ls} {db : Ls → Fl} (hp : PassesOwn (model X.prog X.w) X.A X.env X.xe) (hc : X.calm = true) (hi : DI X wish tg iter wi src) (hg : DG X tg g tv dg) (hb : DB X wish body tb db)
    (hs : ∀ x, foldedSetIterable iter X.env x = pure x := by intro _; rfl) : DS X wish (.For tg iter body [] pos) (tFor wi g tb) (dFor src dg db) := ⟨ps_for hp hc hi.pi hg.pg hb.ps hs, sim_for hi.sim hg.sim hb.sim⟩

/-! ### while -/
def dWhileN (c : Ls → R Bool) (body : Ls → Fl) : Nat → Ls → Fl
  | 0, _ => .stuck
  | n + 1, s => (c s).fl fun b s => if b = true then (match body s with
    | .nx s2 => dWhileN c body n s2
    | .ct s2 => dWhileN c body n s2
    | .bk s2 => .nx s2
    | .rt x s2 => .rt x s2
    | .er x s2 => .er x s2
    | .stuck => .stuck) else .nx s
open Classical in
noncomputable def dWhile (c : Ls → R Bool) (body : Ls → Fl) : Ls → Fl := fun s => if h : ∃ n, dWhileN c body n s ≠ .stuck then dWhileN c body (choose h) s else .stuck
theorem dWhileN_more (c : Ls → R Bool) (body : Ls → Fl) : ∀ (n m : Nat) (s : Ls), dWhileN c body n s ≠ .stuck → n ≤ m → dWhileN c body m s = dWhileN c body n s
  | 0, _, _, h, _ => absurd rfl h
  | n + 1, 0, _, _, h => absurd h (by omega)
  | n + 1, m + 1, s, h, hm => by
    unfold dWhileN at h ⊢
    cases hc : c s with
    | stuck => rfl
    | err x s1 => rfl
    | ok b s1 =>
      rw [hc] at h
      simp only [R.fl_ok] at h ⊢
      cases b with
      | false => rfl
      | true =>
        simp only [if_true] at h ⊢
        cases hb : body s1 with
        | nx s2 => rw [hb] at h; exact dWhileN_more c body n m s2 h (by omega)
        | ct s2 => rw [hb] at h; exact dWhileN_more c body n m s2 h (by omega)
        | _ => rfl
theorem dWhile_of {c : Ls → R Bool} {body : Ls → Fl} {s : Ls} (n : Nat) {r : Fl} (h : dWhileN c body n s = r) (hr : r ≠ .stuck) : dWhile c body s = r := by
  have hx : ∃ n, dWhileN c body n s ≠ .stuck := ⟨n, by rw [h]; exact hr⟩
  unfold dWhile
  rw [dif_pos hx]
  have h1 := Classical.choose_spec hx
  rcases Nat.le_total (Classical.choose hx) n with hle | hle
  · rw [← h, dWhileN_more c body _ _ s h1 hle]
  · rw [dWhileN_more c body n _ s (by rw [h]; exact hr) hle, h]
theorem sim_whileN {G : Gx} {wish : WX} {t : TT} {tb : TS} {c : Ls → R Bool} {body : Ls → Fl} (hc : Sim G rB wish t c) (hb : SimS G wish tb body) (n : Nat) : SimS G wish (tWhile t tb) (dWhileN c body n) := fun B W σ s D e p => by
  refine ⟨fun m σ' H' => ∃ W' s', W'.H = H' ∧ Emb G B W' σ' s' ∧ PostS G B W' wish D (dWhileN c body m s'), ⟨n, W, s, rfl, e, p⟩, ?_⟩
  rintro m σ' H' ⟨W', s', rfl, e', p'⟩
  cases m with
  | zero => exact p'.elim
  | succ m =>
    unfold dWhileN at p'
    refine hc B W' σ' s' _ e' (Post.fl (rep := rB) p' fun b s1 b' W1 _ e1 z1 r1 p1 => ?_)
    cases r1
    cases b with
    | false => simpa using p1 σ' W1 e1 Stp.refl
    | true =>
      rw [if_pos rfl]
      simp only [if_true] at p1
      refine ⟨fun σ2 H2 => ∃ W2 s2, W2.H = H2 ∧ Emb G B W2 σ2 s2 ∧ PostS G B W2 wish D (dWhileN c body m s2), fun σ2 H2 h => ⟨m, Nat.lt_succ_self m, h⟩, ?_⟩
      refine hb B W1 σ' s1 _ e1 ?_
      cases hbd : body s1 with
      | nx s4 => rw [hbd] at p1; exact fun σ4 W4 e4 z4 => ⟨W4, s4, rfl, e4, p1.step z4⟩
      | ct s4 => rw [hbd] at p1; exact fun σ4 W4 e4 z4 => ⟨W4, s4, rfl, e4, p1.step z4⟩
      | bk s4 => rw [hbd] at p1; exact p1
      | rt x4 s4 => rw [hbd] at p1; exact p1
      | er x4 s4 => rw [hbd] at p1; exact p1
      | stuck => rw [hbd] at p1; exact p1
theorem sim_while {G : Gx} {wish : WX} {t : TT} {tb : TS} {c : Ls → R Bool} {body : Ls → Fl} (hc : Sim G rB wish t c) (hb : SimS G wish tb body) : SimS G wish (tWhile t tb) (dWhile c body) := fun B W σ s D e p => by
  unfold dWhile at p
  split at p
  · exact sim_whileN hc hb _ B W σ s D e p
  · exact p.elim
theorem ds_while {X : Cx} {wish : WX} {c : Expr} {body : List Stmt} {tc : TT} {tb : TS} {pos : Pos} {cd : Ls → R Bool} {db : Ls → Fl} (hp : PassesOwn (model X.prog X.w) X.A X.env X.xe) (hc : DT X wish c tc cd) (hb : DB X wish body tb db) : DS X wish (.While c body [] pos) (tWhile tc tb) (dWhile cd db) := ⟨ps_while hp hc.pt hb.ps, sim_while hc.sim hb.sim⟩
end DD

/-! D8: list comprehensions -/
namespace DD
open PySem L2
open PyProof.Rows hiding St

def wipeL (l : List Sl) : List Nat → List Sl
  | [] => l
  | v :: vs => (wipeL l vs).set v .no
def unwipe (l0 l : List Sl) : List Nat → List Sl
  | [] => l
  | v :: vs => (unwipe l0 l vs).set v (l0.getD v .no)
theorem wipeL_length (l : List Sl) : ∀ vs : List Nat, (wipeL l vs).length = l.length
  | [] => rfl
  | v :: vs => by unfold wipeL; rw [List.length_set, wipeL_length l vs]
theorem unwipe_length (l0 l : List Sl) : ∀ vs : List Nat, (unwipe l0 l vs).length = l.length
  | [] => rfl
  | v :: vs => by unfold unwipe; rw [List.length_set, unwipe_length l0 l vs]
theorem wipeL_out {l : List Sl} {j : Nat} : ∀ {vs : List Nat}, j ∉ vs → (wipeL l vs)[j]? = l[j]?
  | [], _ => rfl
  | v :: vs, h => by
    unfold wipeL
    rw [List.getElem?_set_ne (fun e => h (by simp [e]))]
    exact wipeL_out fun m => h (List.mem_cons_of_mem _ m)
theorem wipeL_in {l : List Sl} {j : Nat} : ∀ {vs : List Nat}, j ∈ vs → ∀ x, (wipeL l vs)[j]? = some x → x = .no
  | v :: vs, h, x, e => by
    unfold wipeL at e
    by_cases hv : v = j
    · subst hv
      by_cases hl : v < (wipeL l vs).length
      · rw [List.getElem?_set_self hl] at e; cases e; rfl
      · rw [List.getElem?_eq_none (by rw [List.length_set]; omega)] at e; cases e
    · rw [List.getElem?_set_ne hv] at e
      rcases List.mem_cons.mp h with h | h
      · exact absurd h.symm hv
      · exact wipeL_in h x e
theorem unwipe_out {l0 l : List Sl} {j : Nat} : ∀ {vs : List Nat}, j ∉ vs → (unwipe l0 l vs)[j]? = l[j]?
  | [], _ => rfl
  | v :: vs, h => by
    unfold unwipe
    rw [List.getElem?_set_ne (fun e => h (by simp [e]))]
    exact unwipe_out fun m => h (List.mem_cons_of_mem _ m)
theorem unwipe_in {l0 l : List Sl} {j : Nat} : ∀ {vs : List Nat}, j ∈ vs → ∀ x, (unwipe l0 l vs)[j]? = some x → x = l0.getD j .no
  | v :: vs, h, x, e => by
    unfold unwipe at e
    by_cases hv : v = j
    · subst hv
      by_cases hl : v < (unwipe l0 l vs).length
      · rw [List.getElem?_set_self hl] at e; cases e; rfl
      · rw [List.getElem?_eq_none (by rw [List.length_set]; omega)] at e; cases e
    · rw [List.getElem?_set_ne hv] at e
      rcases List.mem_cons.mp h with h | h
      · exact absurd h.symm hv
      · exact unwipe_in h x e
theorem wipeV_out {σ : L2.St} {i : Nat} : ∀ {vs : List Nat}, i ∉ vs → (wipe σ vs)[i]? = σ[i]?
  | [], _ => rfl
  | v :: vs, h => by
    unfold wipe
    rw [List.getElem?_set_ne (fun e => h (by simp [e]))]
    exact wipeV_out fun m => h (List.mem_cons_of_mem _ m)
theorem wipeV_in {σ : L2.St} {j : Nat} : ∀ {vs : List Nat}, j ∈ vs → ∀ x, (wipe σ vs)[j]? = some x → x = none
  | v :: vs, h, x, e => by
    unfold wipe at e
    by_cases hv : v = j
    · subst hv
      by_cases hl : v < (wipe σ vs).length
      · rw [List.getElem?_set_self hl] at e; cases e; rfl
      · rw [List.getElem?_eq_none (by rw [List.length_set]; omega)] at e; cases e
    · rw [List.getElem?_set_ne hv] at e
      rcases List.mem_cons.mp h with h | h
      · exact absurd h.symm hv
      · exact wipeV_in h x e
theorem wipe_only {σ σ2 : L2.St} {tv vs : List Nat} (o : Only tv (wipe σ vs) σ2) (h : ∀ j ∈ tv, j ∈ vs) : wipe σ2 vs = wipe σ vs := by
  apply List.ext_getElem?
  intro j
  by_cases hj : j ∈ vs
  · have h1 := fun x => wipeV_in (σ := σ2) hj x
    have h2 := fun x => wipeV_in (σ := σ) hj x
    by_cases hl : j < σ.length
    · have l1 : j < (wipe σ2 vs).length := by rw [wipe_length, o.1, wipe_length]; exact hl
      have l2 : j < (wipe σ vs).length := by rw [wipe_length]; exact hl
      rw [List.getElem?_eq_getElem l1, List.getElem?_eq_getElem l2, h1 _ (List.getElem?_eq_getElem l1), h2 _ (List.getElem?_eq_getElem l2)]
    · rw [List.getElem?_eq_none (by rw [wipe_length, o.1, wipe_length]; omega), List.getElem?_eq_none (by rw [wipe_length]; omega)]
  · rw [wipeV_out hj, o.2 j fun h' => hj (h j h')]
theorem Emb.wipe {G : Gx} {B W : Wd} {σ : L2.St} {s : Ls} (e : Emb G B W σ s) (vs : List Nat) : Emb G B W (L2.wipe σ vs) { s with loc := wipeL s.loc vs } := by
  have old : ∀ (j : Nat) x, (wipeL s.loc vs)[j]? = some x → x ≠ .no → j ∉ vs ∧ s.loc[j]? = some x := fun j x h hx => by
    by_cases hj : j ∈ vs
    · exact absurd (wipeL_in hj x h) hx
    · exact ⟨hj, by rw [← wipeL_out hj]; exact h⟩
  refine ⟨e.wok, e.mem, by show (wipeL s.loc vs).length = _; rw [wipeL_length, wipe_length]; exact e.len, fun j d h => ?_, fun j ds h => ?_, fun j k ds es a h1 h2 h3 h4 => ?_, e.stp, e.bhot, e.tmpL, e.tmpO, e.tmpN, fun j ds a h1 h2 => ?_⟩
  · obtain ⟨n, q⟩ := old j _ h (by intro z; cases z)
    rw [wipeV_out n]; exact e.val j d q
  · obtain ⟨n, q⟩ := old j _ h (by intro z; cases z)
    rw [wipeV_out n]; exact e.own j ds q
  · obtain ⟨n1, q1⟩ := old j _ h1 (by intro z; cases z)
    obtain ⟨n2, q2⟩ := old k _ h2 (by intro z; cases z)
    rw [wipeV_out n1] at h3
    rw [wipeV_out n2] at h4
    exact e.ownI j k ds es a q1 q2 h3 h4
  · obtain ⟨n, q⟩ := old j _ h1 (by intro z; cases z)
    rw [wipeV_out n] at h2
    exact e.tmpS j ds a q h2
def noOwn (l : List Sl) (vs : List Nat) : Bool := vs.all fun j => match l.getD j .no with
  | .own _ => false
  | _ => true
theorem Emb.unwipe {G : Gx} {B W W' : Wd} {σ : L2.St} {s s' : Ls} (e : Emb G B W σ s) (vs : List Nat) (hn : noOwn s.loc vs = true) (e' : Emb G B W' (L2.wipe σ vs) s') (z : Stp W W') : Emb G B W' σ { s' with loc := DD.unwipe s.loc s'.loc vs } := by
  have hlen : s'.loc.length = σ.length := by rw [e'.len, wipe_length]
  have own' : ∀ (j : Nat) ds, (DD.unwipe s.loc s'.loc vs)[j]? = some (Sl.own ds) → j ∉ vs ∧ s'.loc[j]? = some (Sl.own ds) := fun j ds h => by
    by_cases hj : j ∈ vs
    · have q := unwipe_in hj _ h
      have k := (List.all_eq_true.mp hn) j hj
      rw [← q] at k
      cases k
    · exact ⟨hj, by rw [← unwipe_out hj]; exact h⟩
  refine ⟨e'.wok, e'.mem, by show (DD.unwipe s.loc s'.loc vs).length = _; rw [unwipe_length]; exact hlen, fun j d h => ?_, fun j ds h => ?_, fun j k ds es a h1 h2 h3 h4 => ?_, e'.stp, e'.bhot, e'.tmpL, e'.tmpO, e'.tmpN, fun j ds a h1 h2 => ?_⟩
  · by_cases hj : j ∈ vs
    · have q := unwipe_in hj _ h
      have hl : j < s.loc.length := by
        by_cases hl : j < s.loc.length
        · exact hl
        · rw [List.getD_eq_getElem?_getD, List.getElem?_eq_none (by omega)] at q; cases q
      have q' : s.loc[j]? = some (.val d) := by rw [q, List.getD_eq_getElem?_getD, List.getElem?_eq_getElem hl]; rfl
      obtain ⟨v, g1, g2⟩ := e.val j d q'
      exact ⟨v, g1, RepX.mono z.fz g2⟩
    · have h' : (DD.unwipe s.loc s'.loc vs)[j]? = some (.val d) := h
      rw [unwipe_out hj] at h'
      obtain ⟨v, g1, g2⟩ := e'.val j d h'
      rw [wipeV_out hj] at g1
      exact ⟨v, g1, g2⟩
  · obtain ⟨n, q⟩ := own' j ds h
    obtain ⟨a, xs, g⟩ := e'.own j ds q
    rw [wipeV_out n] at g
    exact ⟨a, xs, g⟩
  · obtain ⟨n1, q1⟩ := own' j _ h1
    obtain ⟨n2, q2⟩ := own' k _ h2
    rw [← wipeV_out n1] at h3
    rw [← wipeV_out n2] at h4
    exact e'.ownI j k ds es a q1 q2 h3 h4
  · obtain ⟨n, q⟩ := own' j _ h1
    rw [← wipeV_out n] at h2
    exact e'.tmpS j ds a q h2
/-- a list without a name changes -/
theorem Emb.mutTmp {G : Gx} {B W : Wd} {σ : L2.St} {s : Ls} (e : Emb G B W σ s) {n : Nat} {ds : List Dv} {l : Addr} (h : s.tmp[n]? = some ds) (hl : W.tmp[n]? = some l) {xs' : List V} {ds' : List Dv} (r : RepL G W xs' ds') :
    Emb G B { W with H := upd W.H l (.lst xs') } σ { s with tmp := s.tmp.set n ds' } ∧ Stp W { W with H := upd W.H l (.lst xs') } := by
  obtain ⟨⟨xs, h2, h3⟩, h4, h5, h6⟩ := e.tmpO n ds l h hl
  have hi : n < s.tmp.length := (List.getElem?_eq_some_iff.mp h).1
  have z : Fz W.hot W.rho W.H W.hot W.rho (upd W.H l (.lst xs')) := Fz.mut h4 h2 (fun _ q => by cases q) (fun q => by cases q)
  have ne : ∀ b u, W.H b = some u → b ≠ l → (upd W.H l (.lst xs')) b = some u := fun b u q k => by rw [upd_ne k]; exact q
  refine ⟨⟨⟨e.wok.nd, e.wok.len, fun b hb => ?_, e.wok.hotr, fun m o b g1 g2 => ?_⟩, e.mem, e.len, fun j d hj => ?_, fun j es hj => ?_, e.ownI, ?_, e.bhot, by show (s.tmp.set n ds').length = _; rw [List.length_set]; exact e.tmpL, fun m es b g1 g2 => ?_, e.tmpN, e.tmpS⟩, z, fun _ _ h => h⟩
  · obtain ⟨o, q⟩ := e.wok.hotd b hb
    by_cases hbl : b = l
    · subst hbl; exact ⟨_, upd_same⟩
    · exact ⟨o, ne b o q hbl⟩
  · refine (e.wok.cells m o b g1 g2).fz (W' := { W with H := upd W.H l (.lst xs') }) z fun u q => ne b u q fun hb => ?_
    subst hb
    exact h5 (List.mem_of_getElem? g2)
  · obtain ⟨v, q1, q2⟩ := e.val j d hj
    exact ⟨v, q1, RepX.mono z q2⟩
  · obtain ⟨b, ys, q1, q2, q3, q4, q5, q6⟩ := e.own j es hj
    exact ⟨b, ys, q1, ne b _ q2 (fun hb => by subst hb; exact e.tmpS j es _ hj q1 (List.mem_of_getElem? hl)), RepX.mono z q3, q4, q5, q6⟩
  · have c := e.stp
    have nb : ∀ b u, B.H b = some u → b ≠ l := fun b u q hb => by subst hb; rw [h6] at q; cases q
    refine ⟨fun b o q k => ne b o (c.keep b o q k) (nb b o q), fun b ys q => ne b _ (c.tups b ys q) (nb b _ q), fun b o u q => ne b _ (c.frzs b o u q) (nb b _ q), c.pre, c.hotB, c.hotN, c.rhoN, fun b o q => ?_⟩
    obtain ⟨o', q'⟩ := c.dom b o q
    exact ⟨o', ne b o' q' (nb b o q)⟩
  · have g1' : (s.tmp.set n ds')[m]? = some es := g1
    by_cases hm : n = m
    · subst hm
      rw [List.getElem?_set_self hi] at g1'
      cases g1'
      have : l = b := by rw [hl] at g2; exact Option.some.inj g2
      subst this
      exact ⟨⟨xs', upd_same, RepX.mono z r⟩, h4, h5, h6⟩
    · rw [List.getElem?_set_ne hm] at g1'
      obtain ⟨⟨ys, q1, q2⟩, q3, q4, q5⟩ := e.tmpO m es b g1' g2
      refine ⟨⟨ys, ne b _ q1 (fun hb => ?_), RepX.mono z q2⟩, q3, q4, q5⟩
      subst hb
      have hlt : n < W.tmp.length := (List.getElem?_eq_some_iff.mp hl).1
      exact hm ((List.getElem?_inj hlt e.tmpN).mp (hl.trans g2.symm))
/-- the newest list without a name is settled -/
theorem Emb.settleTmp {G : Gx} {B W : Wd} {σ : L2.St} {s : Ls} (e : Emb G B W σ s) {n : Nat} {ds : List Dv} {p : Addr} (h1 : s.tmp[n]? = some ds) (h2 : W.tmp[n]? = some p) (hn : n + 1 = s.tmp.length) :
    ∃ W', W'.H = W.H ∧ W'.rho = W.rho ∧ W'.tmp = W.tmp.dropLast ∧ Emb G B W' σ { s with tmp := s.tmp.dropLast } ∧ Fz W.hot W.rho W.H W'.hot W'.rho W'.H ∧ Rep G W' (.ref p) (.lst ds) := by
  obtain ⟨⟨xs, q1, q2⟩, q3, q4, q5⟩ := e.tmpO n ds p h1 h2
  have z : Fz W.hot W.rho W.H (fun b => W.hot b ∧ b ≠ p) W.rho W.H := ⟨fun _ _ _ h => h, fun b o hn _ hh => hn hh.1, fun _ _ h => h, fun _ _ _ h => h, fun _ _ h => h⟩
  have notin : p ∉ W.tmp.dropLast := fun hm => by
    obtain ⟨m, hm⟩ := List.mem_iff_getElem?.mp hm
    obtain ⟨g1, g2⟩ := getElem?_dropLast' hm
    have := (List.getElem?_inj (by omega) e.tmpN).mp (g1.trans h2.symm)
    have := e.tmpL
    omega
  refine ⟨⟨fun b => W.hot b ∧ b ≠ p, W.rho, W.mem, W.H, W.tmp.dropLast⟩, rfl, rfl, rfl, ?_, z, .lst q1 (fun hh => hh.2 rfl) (RepX.mono z q2)⟩
  refine ⟨⟨e.wok.nd, e.wok.len, fun b hb => e.wok.hotd b hb.1, fun b hb => ⟨e.wok.hotr b hb, fun q => q4 (q ▸ hb)⟩, fun m o b g1 g2 => ?_⟩, e.mem, e.len, fun j d hj => ?_, fun j es hj => ?_, e.ownI, ?_, e.bhot, ?_, fun m es b g1 g2 => ?_, e.tmpN.sublist (List.dropLast_sublist _), fun j es b g1 g2 hb => e.tmpS j es b g1 g2 (List.dropLast_subset _ hb)⟩
  · have q := e.wok.cells m o b g1 g2
    cases o with
    | lst es => obtain ⟨ys, k1, k2⟩ := q; exact ⟨ys, k1, RepX.mono z k2⟩
    | dct kvs => obtain ⟨l, k1, k2⟩ := q; exact ⟨l, k1, RepF.mono (fun _ _ r => RepX.mono z r) k2⟩
    | ins C fs => obtain ⟨Ca, dx, l, k0, k1, k2⟩ := q; exact ⟨Ca, dx, l, k0, k1, RepF.mono (fun _ _ r => RepX.mono z r) k2⟩
    | tab C x q0 => exact q
    | exn C d => cases d <;> exact q
    | xdc fs => obtain ⟨l, k1, k2⟩ := q; exact ⟨l, k1, RepF.mono (fun _ _ r => RepX.mono z r) k2⟩
  · obtain ⟨v, k1, k2⟩ := e.val j d hj
    exact ⟨v, k1, RepX.mono z k2⟩
  · obtain ⟨b, ys, k1, k2, k3, k4, k5, k6⟩ := e.own j es hj
    exact ⟨b, ys, k1, k2, RepX.mono z k3, ⟨k4, fun hb => by subst hb; exact e.tmpS j es _ hj k1 (List.mem_of_getElem? h2)⟩, k5, k6⟩
  · have c := e.stp
    refine ⟨c.keep, c.tups, c.frzs, c.pre, fun b hb => ⟨c.hotB b hb, fun q => ?_⟩, fun b hb => c.hotN b hb.1, c.rhoN, c.dom⟩
    subst q
    obtain ⟨o, q⟩ := e.bhot _ hb
    rw [q5] at q; cases q
  · show s.tmp.dropLast.length = W.tmp.dropLast.length
    rw [List.length_dropLast, List.length_dropLast, e.tmpL]
  · obtain ⟨a1, a2⟩ := getElem?_dropLast' g1
    obtain ⟨b1, b2⟩ := getElem?_dropLast' g2
    obtain ⟨⟨ys, k1, k2⟩, k3, k4, k5⟩ := e.tmpO m es b a1 b1
    exact ⟨⟨ys, k1, RepX.mono z k2⟩, ⟨k3, fun hb => notin (hb ▸ List.mem_of_getElem? g2)⟩, k4, k5⟩
/-- a new list, settled at once -/
def dSettle (d : Ls → R Nat) : Ls → R Dv := fun s0 => (d s0).bind fun n s => if n = s0.tmp.length ∧ n + 1 = s.tmp.length then (match s.tmp[n]? with
  | some ds => .ok (.lst ds) { s with tmp := s.tmp.dropLast }
  | none => .stuck) else .stuck
theorem sim_settle {G : Gx} {wish : WX} {te : TE} {d : Ls → R Nat} (h : Sim G (rN G) wish te d) : Sim G (rV G) wish te (dSettle d) := fun B W σ s Q e p => by
  refine h B W σ s Q e ?_
  unfold dSettle at p
  cases hd : d s with
  | stuck => rw [hd] at p; exact p
  | err x s1 => rw [hd] at p; exact p
  | ok n s1 =>
    rw [hd] at p
    simp only [R.bind_ok] at p
    intro v W1 e1 z1 r1
    obtain ⟨q, hq, rfl⟩ := r1
    split at p
    · rename_i hc
      split at p
      · rename_i ds hs
        obtain ⟨W2, g1, g2, g3, g4, g5, g6⟩ := e1.settleTmp hs hq hc.2
        rw [← g1]
        refine p _ W2 g4 ⟨z1.fz.trans g5, fun m a hm => ?_⟩ g6
        have h1 := z1.tmp m a hm
        have h2 := (List.getElem?_eq_some_iff.mp hm).1
        rw [g3, getElem?_dropLast (by rw [← e1.tmpL, ← hc.2, hc.1, e.tmpL]; omega)]
        exact h1
      · exact p.elim
    · exact p.elim
theorem de_settle {X : Cx} {wish : WX} {e : Expr} {te : TE} {d : Ls → R Nat} (h : DN X wish e te d) : DE X wish e te (dSettle d) := ⟨h.pe, sim_settle h.sim⟩

/-! ### [elt for tg in iter if ..] -/
abbrev noX : WX := fun _ _ _ _ => False
def dLcGo (chk : List Ob → Bool) (vs : List Nat) (g : Dv → Ls → Option Ls) (tt : Ls → R Bool) (el : Ls → R Dv) (n : Nat) : List Dv → Ls → R Unit
  | [], s => if chk s.mem = true then .ok () s else .stuck
  | d :: ds, s => if chk s.mem = true then (match g d s with
    | some s1 => (tt s1).bind fun b s2 => if b = true then (el s2).bind fun y s3 => (match s3.tmp[n]? with
        | some acc => if acc.length < 16777216 then dLcGo chk vs g tt el n ds { s3 with loc := wipeL s3.loc vs, tmp := s3.tmp.set n (acc ++ [y]) } else .stuck
        | none => .stuck)
      else dLcGo chk vs g tt el n ds { s2 with loc := wipeL s2.loc vs }
    | none => .stuck) else .stuck
def dLcN (src : Ls → R Src) (vs : List Nat) (g : Dv → Ls → Option Ls) (tt : Ls → R Bool) (el : Ls → R Dv) : Ls → R Nat := fun s0 => (src s0).bind fun sc s => if noOwn s.loc vs = true then
  (match dLcGo sc.chk vs g tt el s.tmp.length sc.items { loc := wipeL s.loc vs, mem := s.mem, tmp := s.tmp ++ [[]] } with
  | .ok _ s' => .ok s.tmp.length { s' with loc := DD.unwipe s.loc s'.loc vs }
  | .err _ _ => .stuck
  | .stuck => .stuck) else .stuck
theorem sim_lc {G : Gx} {wish : WX} {wi : TI} {g : TG} {tv vs : List Nat} {tt : TT} {te : TE} {src : Ls → R Src} {dg : Dv → Ls → Option Ls} {dt : Ls → R Bool} {el : Ls → R Dv} (hi : Sim G (rI G) wish wi src) (hg : SimG G g tv dg) (htv : ∀ j ∈ tv, j ∈ vs) (ht : Sim G rB noX tt dt) (he : Sim G (rV G) noX te el) :
    Sim G (rN G) wish (tLc wi g tt te vs) (dLcN src vs dg dt el) := fun B W σ s Q e p => by
  refine hi B W σ s _ e (Post.bind (rep := rI G) (rep2 := rN G) p fun sc s1 J W1 _ e1 z1 r1 p1 => ?_)
  split at p1
  case isFalse => exact p1.elim
  rename_i hno
  intro D hD
  obtain ⟨W2, h1, e2, z2, ht2, hr2⟩ := e1.push hD RepX.nil
  rw [← h1]
  have e2w := e2.wipe vs
  have P0 : ∀ W' s', Emb G B W' (L2.wipe σ vs) s' → Stp W2 W' → W'.tmp[s1.tmp.length]? = some D → Q (.ref D) W'.H → True := fun _ _ _ _ _ _ => trivial
  refine ⟨fun i m H' => m = sc.items.length - i ∧ i ≤ sc.items.length ∧ ∃ W' s', W'.H = H' ∧ Emb G B W' (L2.wipe σ vs) s' ∧ Stp W2 W' ∧ (match dLcGo sc.chk vs dg dt el s1.tmp.length (sc.items.drop i) s' with
    | .ok _ s'' => ∀ W'', Emb G B W'' (L2.wipe σ vs) s'' → Stp W' W'' → Q (.ref D) W''.H
    | _ => False), ⟨_, rfl, Nat.zero_le _, W2, { loc := wipeL s1.loc vs, mem := s1.mem, tmp := s1.tmp ++ [[]] }, rfl, e2w, Stp.refl, ?_⟩, ?_⟩
  · rw [List.drop_zero]
    cases hgo : dLcGo sc.chk vs dg dt el s1.tmp.length sc.items { loc := wipeL s1.loc vs, mem := s1.mem, tmp := s1.tmp ++ [[]] } with
    | ok u s'' =>
      rw [hgo] at p1
      intro W'' e'' z''
      exact p1 (.ref D) W'' (e1.unwipe vs hno e'' (z2.trans z'')) (z2.trans z'') ⟨D, z''.tmp _ _ ht2, rfl⟩
    | err x s'' => rw [hgo] at p1; exact p1
    | stuck => rw [hgo] at p1; exact p1
  rintro i m H' ⟨rfl, hle, W', s', rfl, e', z', p'⟩
  by_cases hlt : i < sc.items.length
  · right
    rw [List.drop_eq_getElem_cons hlt] at p'
    unfold dLcGo at p'
    by_cases hc : sc.chk s'.mem = true
    case neg => rw [if_neg hc] at p'; exact p'.elim
    rw [if_pos hc] at p'
    obtain ⟨go, yld⟩ := r1.go W' (z2.trans z') e'.wok (by rw [← e'.mem]; exact hc) i sc.items[i] (by simp [hlt])
    refine ⟨go, fun H2 => ∃ W2' s3, W2'.H = H2 ∧ Emb G B W2' (L2.wipe σ vs) s3 ∧ Stp W2 W2' ∧ (match dLcGo sc.chk vs dg dt el s1.tmp.length (sc.items.drop (i + 1)) s3 with
      | .ok _ s'' => ∀ W'', Emb G B W'' (L2.wipe σ vs) s'' → Stp W2' W'' → Q (.ref D) W''.H
      | _ => False), fun H2 h => ⟨sc.items.length - (i + 1), by omega, rfl, by omega, h⟩, fun x H2 y => ?_⟩
    obtain ⟨sm, rp⟩ := yld x H2 y
    have ee := e'.grow sm
    cases hs2 : dg sc.items[i] s' with
    | none => rw [hs2] at p'; exact p'.elim
    | some s2 =>
    rw [hs2] at p'
    simp only at p'
    refine hg B (W'.gr H2) (L2.wipe σ vs) s' x _ s2 _ ee rp hs2 fun σ3 W3 e3 z3 o3 => ⟨wipe_only o3 htv, ?_⟩
    have zz : Stp W' W3 := (Stp.grow sm).trans z3
    have wq : L2.wipe σ3 vs = L2.wipe σ vs := wipe_only o3 htv
    refine ht B W3 σ3 s2 _ e3 ?_
    cases hdt : dt s2 with
    | stuck => rw [hdt] at p'; exact p'
    | err x4 s4 => rw [hdt] at p'; exact fun _ _ _ _ _ _ => p'
    | ok b s4 =>
      rw [hdt] at p'
      simp only [R.bind_ok] at p'
      intro b' W4 e4 z4 rb
      cases rb
      cases b with
      | false =>
        rw [if_neg (by decide)] at p' ⊢
        have e4w := e4.wipe vs
        rw [wq] at e4w
        refine ⟨W4, _, rfl, e4w, (z'.trans zz).trans z4, ?_⟩
        split at p' <;> first | exact p'.elim | skip
        exact fun W'' e'' z'' => p' W'' e'' ((zz.trans z4).trans z'')
      | true =>
        rw [if_pos rfl] at p' ⊢
        refine he B W4 σ3 s4 _ e4 ?_
        cases hel : el s4 with
        | stuck => rw [hel] at p'; exact p'
        | err x5 s5 => rw [hel] at p'; exact fun _ _ _ _ _ _ => p'
        | ok y5 s5 =>
          rw [hel] at p'
          simp only [R.bind_ok] at p'
          intro v5 W5 e5 z5 r5
          cases hacc : s5.tmp[s1.tmp.length]? with
          | none => rw [hacc] at p'; exact p'.elim
          | some acc =>
            rw [hacc] at p'
            simp only at p'
            by_cases hsz : acc.length < 16777216
            · rw [if_pos hsz] at p'
              have zall : Stp W2 W5 := ((z'.trans zz).trans z4).trans z5
              have hD5 := zall.tmp _ _ ht2
              obtain ⟨⟨xs, g1, g2⟩, _⟩ := e5.tmpO _ acc D hacc hD5
              obtain ⟨k1, k2⟩ := e5.mutTmp hacc hD5 (xs' := xs ++ [v5]) (ds' := acc ++ [y5]) (RepL.append g2 (.cons r5 .nil))
              have k1w := k1.wipe vs
              rw [wq] at k1w
              refine ⟨xs, g1, by rw [RepL.length g2, sizeLine_eq]; exact hsz, _, _, rfl, k1w, zall.trans k2, ?_⟩
              split at p' <;> first | exact p'.elim | skip
              rename_i hq
              dsimp only
              rw [hq]
              exact fun W'' e'' z'' => p' W'' e'' ((((zz.trans z4).trans z5).trans k2).trans z'')
            · rw [if_neg hsz] at p'
              exact p'.elim
  · left
    have hi' : i = sc.items.length := by omega
    subst hi'
    rw [List.drop_eq_nil_of_le (Nat.le_refl _)] at p'
    unfold dLcGo at p'
    by_cases hc : sc.chk s'.mem = true
    · rw [if_pos hc] at p'
      exact ⟨r1.stop W' (z2.trans z') e'.wok (by rw [← e'.mem]; exact hc), p' W' e' Stp.refl⟩
    · rw [if_neg hc] at p'
      exact p'.elim
end DD

/-! D9: defs and their calls; objects, their fields and methods -/
namespace DD
open PySem L2
open PyProof.Rows hiding St

/-- what a call gives -/
inductive RF where
  | ok (x : Dv) (m : List Ob)
  | err (x : Ex) (m : List Ob)
  | stuck
  deriving Inhabited
abbrev Den := List Dv → List Ob → RF
/-- the promise of a def: it does what f says -/
def spD (G : Gx) (ex : Bool) (n : Nat) (f : Den) : Sp := fun vs H Q E => ∃ W xs, W.H = H ∧ WOk G W ∧ RepL G W vs xs ∧ xs.length = n ∧ (match f xs W.mem with
  | .ok x m => ∀ v W', WOk G W' → W'.mem = m → CStp W W' → Rep G W' v x → Q v W'.H
  | .err x m => ex = true ∧ ∀ c dx W', WOk G W' → W'.mem = m → CStp W W' → ExRep G W' c dx x → E c dx W'.H
  | .stuck => False)
theorem spD_len {G : Gx} {ex : Bool} {n : Nat} {f : Den} {vs : List V} {H : Hp} {Q : VK} {E : XK} (h : spD G ex n f vs H Q E) : vs.length = n := by
  obtain ⟨W, xs, _, _, r, l, _⟩ := h
  rw [RepL.length r]; exact l
def startL (N : Nat) (xs : List Dv) : List Sl := xs.map Sl.val ++ List.replicate (N - xs.length) Sl.no
/-- a def's body as a function -/
def dDef (N : Nat) (body : Ls → Fl) : Den := fun xs m => match body ⟨startL N xs, m, []⟩ with
  | .nx s => .ok .non s.mem
  | .rt x s => .ok x s.mem
  | .er x s => .err x s.mem
  | _ => .stuck
theorem emb_start {G : Gx} {W : Wd} {vs : List V} {xs : List Dv} {N : List Str} (ok : WOk G W) (r : RepL G W vs xs) : Emb G { W with tmp := [] } { W with tmp := [] } (L2.start N vs) ⟨startL N.length xs, W.mem, []⟩ := by
  have hl := RepL.length r
  have get : ∀ (i : Nat) d, (startL N.length xs)[i]? = some d → (∃ x, d = Sl.val x ∧ xs[i]? = some x) ∨ d = Sl.no := fun i d h => by
    unfold startL at h
    by_cases hi : i < xs.length
    · rw [List.getElem?_append_left (by simpa using hi), List.getElem?_map] at h
      obtain ⟨x, h1, h2⟩ := Option.map_eq_some_iff.mp h
      exact .inl ⟨x, h2.symm, h1⟩
    · rw [List.getElem?_append_right (by simpa using hi), List.getElem?_replicate] at h
      split at h
      · exact .inr (Option.some.inj h).symm
      · cases h
  refine ⟨⟨ok.nd, ok.len, ok.hotd, ok.hotr, ok.cells⟩, rfl, ?_, fun i d h => ?_, fun i ds h => ?_, fun i j ds es a h => ?_, CStp.refl _, ok.hotd, rfl, fun n ds a h => by simp at h, List.nodup_nil, fun i ds a h => ?_⟩
  · show (startL N.length xs).length = (L2.start N vs).length
    unfold startL L2.start
    rw [List.length_append, List.length_append, List.length_map, List.length_map, List.length_replicate, List.length_replicate, hl]
  · rcases get i _ h with ⟨x, h1, h2⟩ | h1
    · cases h1
      obtain ⟨v, g1, g2⟩ := RepL.getD r h2
      refine ⟨v, ?_, g2⟩
      unfold L2.start
      have hi := (List.getElem?_eq_some_iff.mp g1).1
      rw [List.getElem?_append_left (by simpa using hi), List.getElem?_map, g1]
      rfl
    · cases h1
  · rcases get i _ h with ⟨x, h1, _⟩ | h1 <;> cases h1
  · rcases get i _ h with ⟨x, h1, _⟩ | h1 <;> cases h1
  · rcases get i _ h with ⟨x, h1, _⟩ | h1 <;> cases h1
theorem CStp.noTmp {W W' : Wd} (c : CStp { W with tmp := [] } W') : CStp W W' := ⟨c.keep, c.tups, c.frzs, c.pre, c.hotB, c.hotN, c.rhoN, c.dom⟩
/-- a body that does what d says keeps the def's promise -/
theorem body_ok {G : Gx} {ex : Bool} {wish : WX} {t : TS} {d : Ls → Fl} {N : List Str} {n : Nat} {vs : List V} {H : Hp} {Q : VK} {E : XK} (h : SimS G wish t d) (hw : ∀ c dx σ H', ex = true → E c dx H' → wish c dx σ H') (hs : spD G ex n (dDef N.length d) vs H Q E) : t { nx := fun _ H' => Q .non H', rt := Q } (L2.start N vs) H := by
  obtain ⟨W, xs, rfl, ok, r, hl, p⟩ := hs
  have e := emb_start (N := N) ok r
  refine h { W with tmp := [] } { W with tmp := [] } (L2.start N vs) _ _ e ?_
  unfold dDef at p
  cases hd : d ⟨startL N.length xs, W.mem, []⟩ with
  | nx s => rw [hd] at p; exact fun σ' W' e' z' => p .non W' e'.wok e'.mem.symm e'.stp.noTmp .non
  | rt x s => rw [hd] at p; exact fun σ' v W' e' z' r' => p v W' e'.wok e'.mem.symm e'.stp.noTmp r'
  | er x s => rw [hd] at p; exact fun σ' c dx W' e' z' r' => hw c dx σ' W'.H p.1 (p.2 c dx W' e'.wok e'.mem.symm e'.stp.noTmp r')
  | bk s => rw [hd] at p; exact p.elim
  | ct s => rw [hd] at p; exact p.elim
  | stuck => rw [hd] at p; exact p.elim
section
variable {P : Program} {w : World} {K : PySem.W.Frag} {mg : Str → Option Value} {base : Heap} {x qual : Str} {st : Stmt} {f : Addr} {fd : FuncData} {N ps : List Str} {k : Nat} {d : Ls → Fl}
/-- THE RULE for a def that lets nothing out -/
theorem def_ok (F : Fun K x qual st f fd) (S : FnScope N ps (defScope st))
    (h : ∀ (cdv : Value) (A : Around) (outer : List Env) (s : Shared) (H : Hp) (E : XK), Room k (A.deeper (envOfC qual (defScope st) s.heap.objs.size f cdv)) → ∃ t, DB (cxOf CX0 P w K mg base N qual (defScope st) f cdv A outer s H E).nox noX (defBody st) t d) :
    FnOk P w K mg base CX0 (k + 1) f fd ps (spD ⟨K, mg, base⟩ false ps.length (dDef N.length d)) :=
  F.ok S (fun vs H Q E hs => spD_len hs) fun cdv A outer s H vs Q E hr hs => by
    obtain ⟨t, hb⟩ := h cdv A outer s H E hr
    exact ⟨t, hb.ps, body_ok (ex := false) (wish := noX) hb.sim (fun _ _ _ _ z => (by cases z)) hs⟩
/-- .. for a def that may raise -/
theorem def_okX (F : Fun K x qual st f fd) (S : FnScope N ps (defScope st))
    (h : ∀ (cdv : Value) (A : Around) (outer : List Env) (s : Shared) (H : Hp) (E : XK), Room k (A.deeper (envOfC qual (defScope st) s.heap.objs.size f cdv)) → ∃ t, DB (cxOf (L2.CX P w) P w K mg base N qual (defScope st) f cdv A outer s H E) (fun c dx _ H' => E c dx H') (defBody st) t d) :
    FnOk P w K mg base (L2.CX P w) (k + 1) f fd ps (spD ⟨K, mg, base⟩ true ps.length (dDef N.length d)) :=
  F.okX S (fun vs H Q E hs => spD_len hs) fun cdv A outer s H vs Q E hr hs => by
    obtain ⟨t, hb⟩ := h cdv A outer s H E hr
    exact ⟨t, hb.ps, body_ok hb.sim (fun _ _ _ _ _ z => z) hs⟩
end

/-! ### calls -/
theorem Emb.call {G : Gx} {B W W' : Wd} {σ : L2.St} {s : Ls} {m : List Ob} (e : Emb G B W σ s) (ok : WOk G W') (hm : W'.mem = m) (c : CStp W W') : Emb G B { W' with tmp := W.tmp } σ { s with mem := m } ∧ Stp W { W' with tmp := W.tmp } := by
  have z := c.fz e.wok
  have norho : ∀ a o, W.H a = some o → a ∉ W.rho → a ∉ W'.rho := fun a o h n hh => (c.rhoN a hh).elim n fun q => by rw [q] at h; cases h
  refine ⟨⟨⟨ok.nd, ok.len, ok.hotd, ok.hotr, ok.cells⟩, hm.symm, e.len, fun i d h => ?_, fun i ds h => ?_, e.ownI, ?_, e.bhot, e.tmpL, fun n ds a h1 h2 => ?_, e.tmpN, e.tmpS⟩, ⟨z, fun _ _ h => h⟩⟩
  · obtain ⟨v, h1, h2⟩ := e.val i d h
    exact ⟨v, h1, RepX.mono z h2⟩
  · obtain ⟨a, xs, h1, h2, h3, h4, h5, h6⟩ := e.own i ds h
    exact ⟨a, xs, h1, c.keep _ _ h2 h5, RepX.mono z h3, c.hotB _ h4, norho _ _ h2 h5, h6⟩
  · have q := e.stp.trans c
    exact ⟨q.keep, q.tups, q.frzs, q.pre, q.hotB, q.hotN, q.rhoN, q.dom⟩
  · obtain ⟨⟨xs, q1, q2⟩, q3, q4, q5⟩ := e.tmpO n ds a h1 h2
    exact ⟨⟨xs, c.keep _ _ q1 q4, RepX.mono z q2⟩, c.hotB _ q3, norho _ _ q1 q4, q5⟩
/-- what can be called: with so many values in hand it does what f says -/
structure FnD (X : Cx) (wish : WX) (a : Addr) (f : Den) : Prop where
  run : ∀ (pins : List (Addr × Obj)) (s : Shared) (σ : L2.St) (W : Wd) (us : List Value) (vs : List V) (xs : List Dv) (Q : VK), Inv X pins σ W.H s → Vals vs us → WOk (gx X) W → RepL (gx X) W vs xs → (match f xs W.mem with
    | .ok x m => ∀ v W', WOk (gx X) W' → W'.mem = m → CStp W W' → Rep (gx X) W' v x → Q v W'.H
    | .err x m => ∀ c dx W', WOk (gx X) W' → W'.mem = m → CStp W W' → ExRep (gx X) W' c dx x → wish c dx σ W'.H
    | .stuck => False) → wpAny (model X.prog X.w) X.A (call (.ref a) us) (EP X pins σ Q) X.xe s
/-- defaults fill up; other numbers of values are none -/
def withD (n : Nat) (dds : List Dv) (f : Den) : Den := fun xs m => if xs.length + dds.length = n then f (xs ++ dds) m else .stuck
/-- an error is not let out -/
def noEx (f : Den) : Den := fun xs m => match f xs m with
  | .err _ _ => .stuck
  | r => r
theorem fnD_of {X : Cx} {wish : WX} {CX : CXT} {k n : Nat} {a : Addr} {fd : FuncData} {ps : List Str} {ex : Bool} {f : Den} {ds : List Value} {dvs : List V} {dds : List Dv} (F : FnOk X.prog X.w X.K X.mg X.base CX k a fd ps (spD (gx X) ex n f)) (hr : Room k X.A) (hb : Binds X.K fd ps ds) (hd : Vals dvs ds)
    (hx : ∀ σ, PassesAt CX X σ (WE wish σ)) (hdd : ∀ W, RepL (gx X) W dvs dds) (hex : ex = true) : FnD X wish a (withD n dds f) := ⟨fun pins s σ W us vs xs Q I r ok rl h => by
  by_cases hl : xs.length + dds.length = n
  · simp only [withD, if_pos hl] at h
    have r2 : Vals (vs ++ dvs) (us ++ ds) := r.append hd
    have hs : spD (gx X) ex n f (vs ++ dvs) W.H Q (WE wish σ) := ⟨W, xs ++ dds, rfl, ok, RepL.append rl (hdd W), by rw [List.length_append]; exact hl, by
      cases hf : f (xs ++ dds) W.mem with
      | ok x m => rw [hf] at h; exact h
      | err x m => rw [hf] at h; exact ⟨hex, h⟩
      | stuck => rw [hf] at h; exact h⟩
    have hl2 : (us ++ ds).length = ps.length := by rw [← r2.length]; exact F.len _ _ _ _ hs
    refine wpAny_call (codeAny_mono (F.run X.A X.stack s W.H ⟨us, []⟩ (us ++ ds) (vs ++ dvs) Q (WE wish σ) hr I.env0 (hb s us I.kIn hl2) r2 hs) fun r s' hq => ?_)
    cases r with
    | error e => exact hx σ pins W.H s e s' I hq
    | ok fl =>
      cases fl with
      | ret u => exact I.after hq
      | next => exact False.elim hq
      | brk => exact False.elim hq
      | cont => exact False.elim hq
  · simp only [withD, if_neg hl] at h⟩
theorem fnD_of0 {X : Cx} {wish : WX} {k n : Nat} {a : Addr} {fd : FuncData} {ps : List Str} {ex : Bool} {f : Den} {ds : List Value} {dvs : List V} {dds : List Dv} (F : FnOk X.prog X.w X.K X.mg X.base CX0 k a fd ps (spD (gx X) ex n f)) (hr : Room k X.A) (hb : Binds X.K fd ps ds) (hd : Vals dvs ds)
    (hdd : ∀ W, RepL (gx X) W dvs dds) : FnD X wish a (withD n dds (noEx f)) := ⟨fun pins s σ W us vs xs Q I r ok rl h => by
  by_cases hl : xs.length + dds.length = n
  · simp only [withD, if_pos hl] at h
    have r2 : Vals (vs ++ dvs) (us ++ ds) := r.append hd
    have hs : spD (gx X) ex n f (vs ++ dvs) W.H Q E0 := ⟨W, xs ++ dds, rfl, ok, RepL.append rl (hdd W), by rw [List.length_append]; exact hl, by
      unfold noEx at h
      cases hf : f (xs ++ dds) W.mem with
      | ok x m => rw [hf] at h; exact h
      | err x m => rw [hf] at h; exact h.elim
      | stuck => rw [hf] at h; exact h⟩
    have hl2 : (us ++ ds).length = ps.length := by rw [← r2.length]; exact F.len _ _ _ _ hs
    refine wpAny_call (codeAny_mono (F.run X.A X.stack s W.H ⟨us, []⟩ (us ++ ds) (vs ++ dvs) Q E0 hr I.env0 (hb s us I.kIn hl2) r2 hs) fun r s' hq => ?_)
    cases r with
    | error e => exact False.elim hq
    | ok fl =>
      cases fl with
      | ret u => exact I.after hq
      | next => exact False.elim hq
      | brk => exact False.elim hq
      | cont => exact False.elim hq
  · simp only [withD, if_neg hl] at h⟩
/-- .. a def that may raise, called where nothing is let out -/
theorem fnD_ofL {X : Cx} {wish : WX} {k n : Nat} {a : Addr} {fd : FuncData} {ps : List Str} {ex : Bool} {f : Den} {ds : List Value} {dvs : List V} {dds : List Dv} (F : FnOk X.prog X.w X.K X.mg X.base (L2.CX X.prog X.w) k a fd ps (spD (gx X) ex n f)) (hr : Room k X.A) (hb : Binds X.K fd ps ds) (hd : Vals dvs ds)
    (hdd : ∀ W, RepL (gx X) W dvs dds) : FnD X wish a (withD n dds (noEx f)) := ⟨fun pins s σ W us vs xs Q I r ok rl h => by
  by_cases hl : xs.length + dds.length = n
  · simp only [withD, if_pos hl] at h
    have r2 : Vals (vs ++ dvs) (us ++ ds) := r.append hd
    have hs : spD (gx X) ex n f (vs ++ dvs) W.H Q E0 := ⟨W, xs ++ dds, rfl, ok, RepL.append rl (hdd W), by rw [List.length_append]; exact hl, by
      unfold noEx at h
      cases hf : f (xs ++ dds) W.mem with
      | ok x m => rw [hf] at h; exact h
      | err x m => rw [hf] at h; exact h.elim
      | stuck => rw [hf] at h; exact h⟩
    have hl2 : (us ++ ds).length = ps.length := by rw [← r2.length]; exact F.len _ _ _ _ hs
    refine wpAny_call (codeAny_mono (F.run X.A X.stack s W.H ⟨us, []⟩ (us ++ ds) (vs ++ dvs) Q E0 hr I.env0 (hb s us I.kIn hl2) r2 hs) fun r s' hq => ?_)
    cases r with
    | error e =>
      have hq' : L2.CX X.prog X.w X.stack W.H s E0 e s' := hq
      obtain ⟨_, _, _, _, _, _, _, _, _, _, _, _, q⟩ := hq'
      exact False.elim q
    | ok fl =>
      cases fl with
      | ret u => exact I.after hq
      | next => exact False.elim hq
      | brk => exact False.elim hq
      | cont => exact False.elim hq
  · simp only [withD, if_neg hl] at h⟩
/-- behind such a call -/
def wantD (G : Gx) (W : Wd) (wish : WX) (σ : L2.St) (Q : VK) : RF → Prop
  | .ok x m => ∀ v W', WOk G W' → W'.mem = m → CStp W W' → Rep G W' v x → Q v W'.H
  | .err x m => ∀ c dx W', WOk G W' → W'.mem = m → CStp W W' → ExRep G W' c dx x → wish c dx σ W'.H
  | .stuck => False
def RF.r (r : RF) (s : Ls) : R Dv := match r with
  | .ok x m => .ok x { s with mem := m }
  | .err x m => .err x { s with mem := m }
  | .stuck => .stuck
theorem ExRep.tmp {G : Gx} {W : Wd} {t : List Addr} {c : Value} {dx : Option Addr} {x : Ex} (h : ExRep G W c dx x) : ExRep G { W with tmp := t } c dx x := h
theorem want_of {G : Gx} {B W : Wd} {wish : WX} {σ : L2.St} {s : Ls} {Q : VK} {r : RF} (e : Emb G B W σ s) (h : Post G B W wish σ (rV G) Q (r.r s)) : wantD G W wish σ Q r := by
  cases r with
  | ok x m =>
      intro v W' ok hm c rp
      obtain ⟨e', z⟩ := e.call ok hm c
      exact h v { W' with tmp := W.tmp } e' z rp
  | err x m =>
      intro c dx W' ok hm cs rp
      obtain ⟨e', z⟩ := e.call ok hm cs
      exact h c dx { W' with tmp := W.tmp } e' z rp
  | stuck => exact h
def tFn (G : Gx) (wish : WX) (f : Den) (t : TA) : TE := fun σ H Q => t σ H fun vs H1 => ∃ W xs, W.H = H1 ∧ WOk G W ∧ RepL G W vs xs ∧ wantD G W wish σ Q (f xs W.mem)
def dFn (f : Den) (da : Ls → R (List Dv)) : Ls → R Dv := fun s => (da s).bind fun xs s => (f xs s.mem).r s
theorem sim_fn {G : Gx} {wish : WX} {f : Den} {t : TA} {da : Ls → R (List Dv)} (ha : Sim G (rL G) wish t da) : Sim G (rV G) wish (tFn G wish f t) (dFn f da) := fun B W σ s Q e p =>
  ha B W σ s _ e (Post.bind (rep := rL G) (rep2 := rV G) p fun xs s1 vs W1 _ e1 z1 r1 p1 => ⟨W1, xs, rfl, e1.wok, r1, want_of e1 (by rw [← e1.mem]; exact p1)⟩)
section
variable {X : Cx} {wish : WX} {a : Addr} {f : Den} {x m : Str} {p pos apos : Pos} {e o : Expr} {es : List Expr} {t : TA} {da : Ls → R (List Dv)}
theorem de_call (F : FnD X wish a f) (hg : Gl X x) (hm : X.mg x = some (.ref a)) (hk : PySem.W.keepIn X.K (.ref a) = true) (ha : DA X wish (e :: es) t da) (hdb : (x == ("__debug__" : Str)) = false := by decide) (he : starEach (e :: es) X.env = (false, eval e X.env) :: starEach es X.env := by rfl)
    (hpl : (backTo pos (starEach es X.env)).any (·.1) = false := by rfl) : DE X wish (.Call (.Name x p) (e :: es) [] pos) (tFn (gx X) wish f t) (dFn f da) := ⟨⟨fun pins s σ H Q I h => by
  refine wpAny_Call_Name_kw (ld_glob I hg hm ?_ hdb)
  refine PySem.W.callWith_K (h₀ := X.base) I.ok.mod.kin hk (thn (ha.pa.run pos pins s σ H _ I h) fun us s1 ⟨vs, H1, I1, r, W, xs, hW, ok, rl, q⟩ => ⟨I1.kIn, ?_⟩) he hpl
  subst hW
  exact F.run pins s1 σ W us vs xs Q I1 r ok rl q⟩, sim_fn ha.sim⟩
theorem de_call0 (F : FnD X wish a f) (hg : Gl X x) (hm : X.mg x = some (.ref a)) (hk : PySem.W.keepIn X.K (.ref a) = true) (hdb : (x == ("__debug__" : Str)) = false := by decide) : DE X wish (.Call (.Name x p) [] [] pos) (tFn (gx X) wish f tNil) (dFn f dNil) := ⟨⟨fun pins s σ H Q I h => by
  refine wpAny_Call_Name_kw (ld_glob I hg hm ?_ hdb)
  obtain ⟨W, xs, hW, ok, rl, q⟩ := h
  subst hW
  exact PySem.W.callWith_K0 I.kIn hk (F.run pins s σ W [] [] xs Q I .nil ok rl q)⟩, sim_fn (sim_nil (X := Unit) fun _ _ => .nil)⟩
end
end DD

/-! D10: objects -/
namespace DD
open PySem L2
open PyProof.Rows hiding St

theorem RepF.lookup {R : V → Dv → Prop} {f : Str} : ∀ {l : List (Str × V)} {m : List (Str × Dv)}, RepF R l m → (∀ d, m.lookup f = some d → ∃ v, l.lookup f = some v ∧ R v d) ∧ (m.lookup f = none → l.lookup f = none)
  | _, _, .nil => ⟨fun d h => by simp at h, fun _ => rfl⟩
  | _, _, .cons (k := k) a r => by
    obtain ⟨h1, h2⟩ := RepF.lookup (f := f) r
    by_cases hk : f = k
    · subst hk
      exact ⟨fun d h => by simp at h; subst h; exact ⟨_, by simp, a⟩, fun h => by simp at h⟩
    · have hb : (f == k) = false := beq_eq_false_iff_ne.mpr hk
      exact ⟨fun d h => by simp only [List.lookup, hb] at h ⊢; exact h1 d h, fun h => by simp only [List.lookup, hb] at h ⊢; exact h2 h⟩
theorem RepF.length {κ : Type} {R : V → Dv → Prop} : ∀ {l : List (κ × V)} {m : List (κ × Dv)}, RepF R l m → l.length = m.length
  | _, _, .nil => rfl
  | _, _, .cons _ r => by rw [List.length_cons, List.length_cons, RepF.length r]
def putD (f : Str) (x : Dv) : List (Str × Dv) → List (Str × Dv)
  | [] => [(f, x)]
  | (g, y) :: r => if g = f then (g, x) :: r else (g, y) :: putD f x r
theorem RepF.put {R : V → Dv → Prop} {f : Str} {v : V} {x : Dv} (h : R v x) : ∀ {l : List (Str × V)} {m : List (Str × Dv)}, RepF R l m → RepF R (putF f v l) (putD f x m)
  | _, _, .nil => .cons h .nil
  | _, _, .cons (k := k) a r => by
    unfold putF putD
    by_cases hk : k = f
    · rw [if_pos hk, if_pos hk]; exact .cons h r
    · rw [if_neg hk, if_neg hk]; exact .cons a (RepF.put h r)

/-- the plain fields of the classes -/
def FldOk (G : Gx) (ct : Str → Str → Bool) : Prop := ∀ Cn f Ca, ct Cn f = true → G.mg Cn = some (.ref Ca) → Cls G.K Ca ∧ NoAttr G.K Ca f
def dFld (ct : Str → Str → Bool) (f : Str) (d : Ls → R Dv) : Ls → R Dv := fun s => (d s).bind fun x s => match x with
  | .ref n => (match s.mem[n]? with
    | some (.ins C fs) => if ct C f = true then R.of (fs.lookup f) s else .stuck
    | _ => .stuck)
  | _ => .stuck
theorem sim_fld {G : Gx} {wish : WX} {ct : Str → Str → Bool} {f : Str} {ta : TE} {d : Ls → R Dv} (T : FldOk G ct) (h : Sim G (rV G) wish ta d) : Sim G (rV G) wish (tFld G.K ta f) (dFld ct f d) := fun B W σ s Q e p =>
  h B W σ s _ e (Post.bind (rep := rV G) (rep2 := rV G) p fun x s1 v W1 _ e1 z1 r1 p1 => by
    cases x <;> first | exact p1.elim | skip
    rename_i n _
    cases hm : s1.mem[n]? with
    | none => simp only [hm] at p1; exact p1.elim
    | some o =>
      cases o <;> simp only [hm] at p1 <;> first | exact p1.elim | skip
      rename_i C fs
      by_cases hc : ct C f = true
      · rw [if_pos hc] at p1
        obtain ⟨x, hx, p2⟩ := Post.of p1
        cases r1 with
        | ref hr =>
          rw [e1.mem] at hm
          obtain ⟨Ca, dx, l, g1, g2, g3⟩ := e1.wok.cells n _ _ hm hr
          obtain ⟨c1, c2⟩ := T C f Ca hc g1
          obtain ⟨u, q1, q2⟩ := (RepF.lookup (f := f) g3).1 x hx
          exact ⟨_, Ca, dx, l, u, rfl, g2, c1, c2, q1, p2 u W1 e1 Stp.refl q2⟩
      · rw [if_neg hc] at p1
        exact p1.elim)
theorem de_fld {X : Cx} {wish : WX} {ct : Str → Str → Bool} {e : Expr} {f : Str} {pos : Pos} {ta : TE} {d : Ls → R Dv} (T : FldOk (gx X) ct) (h : DE X wish e ta d) (hb : attributeBase e f X.env (eval e X.env) = eval e X.env := by rfl) : DE X wish (.Attribute e f pos) (tFld X.K ta f) (dFld ct f d) := ⟨pe_fld h.pe hb, sim_fld T h.sim⟩
/-! o.f = e -/
def dSetF (ct : Str → Str → Bool) (f : Str) (dv : Ls → R Dv) (d : Ls → R Dv) : Ls → Fl := fun s => (dv s).fl fun y s => (d s).fl fun x s => match x with
  | .ref n => (match s.mem[n]? with
    | some (.ins C fs) => if ct C f = true ∧ fs.length < 1000 then .nx { s with mem := s.mem.set n (.ins C (putD f y fs)) } else .stuck
    | _ => .stuck)
  | _ => .stuck
theorem sim_setF {G : Gx} {wish : WX} {ct : Str → Str → Bool} {f : Str} {ta tv : TE} {d dv : Ls → R Dv} (T : FldOk G ct) (hv : Sim G (rV G) wish tv dv) (h : Sim G (rV G) wish ta d) : SimS G wish (sFld G.K ta tv f) (dSetF ct f dv d) := fun B W σ s D e p =>
  hv B W σ s _ e (Post.fl (rep := rV G) p fun y s0 vy W0 _ e0 z0 r0 p0 => h B W0 σ s0 _ e0 (Post.fl (rep := rV G) p0 fun x s1 v W1 _ e1 z1 r1 p1 => by
    cases x <;> first | exact p1.elim | skip
    rename_i n _
    cases hm : s1.mem[n]? with
    | none => simp only [hm] at p1; exact p1.elim
    | some o =>
      cases o <;> simp only [hm] at p1 <;> first | exact p1.elim | skip
      rename_i C fs
      by_cases hc : ct C f = true ∧ fs.length < 1000
      · rw [if_pos hc] at p1
        cases r1 with
        | ref hr =>
          have hm' := hm
          rw [e1.mem] at hm
          obtain ⟨Ca, dx, l, g1, g2, g3⟩ := e1.wok.cells n _ _ hm hr
          obtain ⟨c1, c2⟩ := T C f Ca hc.1 g1
          rename_i a
          have hot := e1.wok.hotr _ (List.mem_of_getElem? hr)
          have z : Fz W1.hot W1.rho W1.H W1.hot W1.rho (upd W1.H a (.ins Ca dx (putF f vy l))) := Fz.mut hot g2 (fun _ q => by cases q) (fun q => by cases q)
          obtain ⟨e2, z2⟩ := e1.mutCell hr hm g2 (fun _ q => by cases q) (fun q => by cases q) (u' := .ins Ca dx (putF f vy l)) (o' := .ins C (putD f y fs)) ⟨Ca, dx, _, g1, upd_same, RepF.mono (fun _ _ r => RepX.mono z r) (RepF.put (RepX.mono z1.fz r0) g3)⟩
          exact ⟨_, Ca, dx, l, rfl, g2, c1, c2, by rw [RepF.length g3]; exact hc.2, p1 σ _ e2 z2⟩
      · rw [if_neg hc] at p1
        exact p1.elim))
theorem ds_fld {X : Cx} {wish : WX} {ct : Str → Str → Bool} {o value : Expr} {f : Str} {pos pos' : Pos} {ta tv : TE} {d dv : Ls → R Dv} (T : FldOk (gx X) ct) (hv : DE X wish value tv dv) (h : DE X wish o ta d) (hs : swapsWith value (some (.Attribute o f pos')) pos.line X.env = pure false := by rfl) :
    DS X wish (.Assign [.Attribute o f pos'] value pos) (sFld X.K ta tv f) (dSetF ct f dv d) := ⟨ps_fld h.pe hv.pe hs, sim_setF T hv.sim h.sim⟩

/-! ### methods -/
def tMt (G : Gx) (wish : WX) (C : Addr) (m : Str) (f : Den) (ta : TE) (t : TA) : TE := fun σ H Q => ta σ H fun x H1 => ∃ a dx fs, x = .ref a ∧ H1 a = some (.ins C dx fs) ∧ fs.lookup m = none ∧ t σ H1 fun vs H2 => ∃ W xs, W.H = H2 ∧ WOk G W ∧ RepL G W (x :: vs) xs ∧ wantD G W wish σ Q (f xs W.mem)
def dMt (Cn m : Str) (f : Den) (d : Ls → R Dv) (da : Ls → R (List Dv)) : Ls → R Dv := fun s => (d s).bind fun x s => match x with
  | .ref n => (match s.mem[n]? with
    | some (.ins C fs) => if C = Cn ∧ fs.lookup m = none then (da s).bind fun xs s => (f (.ref n :: xs) s.mem).r s else .stuck
    | _ => .stuck)
  | _ => .stuck
theorem sim_mt {G : Gx} {wish : WX} {C : Addr} {Cn m : Str} {f : Den} {ta : TE} {t : TA} {d : Ls → R Dv} {da : Ls → R (List Dv)} (hC : G.mg Cn = some (.ref C)) (h : Sim G (rV G) wish ta d) (ha : Sim G (rL G) wish t da) : Sim G (rV G) wish (tMt G wish C m f ta t) (dMt Cn m f d da) := fun B W σ s Q e p =>
  h B W σ s _ e (Post.bind (rep := rV G) (rep2 := rV G) p fun x s1 v W1 _ e1 z1 r1 p1 => by
    cases x <;> first | exact p1.elim | skip
    rename_i n _
    cases hm : s1.mem[n]? with
    | none => simp only [hm] at p1; exact p1.elim
    | some o =>
      cases o <;> simp only [hm] at p1 <;> first | exact p1.elim | skip
      rename_i C' fs
      by_cases hc : C' = Cn ∧ fs.lookup m = none
      · rw [if_pos hc] at p1
        have r1' := r1
        cases r1 with
        | ref hr =>
          rw [e1.mem] at hm
          obtain ⟨Ca, dx, l, g1, g2, g3⟩ := e1.wok.cells n _ _ hm hr
          rw [hc.1, hC] at g1
          cases g1
          refine ⟨_, dx, l, rfl, g2, (RepF.lookup (f := m) g3).2 hc.2, ha B W1 σ s1 _ e1 (Post.bind (rep := rL G) (rep2 := rV G) p1 fun xs s2 vs W2 _ e2 z2 r2 p2 => ?_)⟩
          exact ⟨W2, .ref n :: xs, rfl, e2.wok, .cons (RepX.mono z2.fz r1') r2, want_of e2 (by rw [← e2.mem]; exact p2)⟩
      · rw [if_neg hc] at p1
        exact p1.elim)
section
variable {X : Cx} {wish : WX} {C g : Addr} {Cn m : Str} {f : Den} {apos pos : Pos} {e o : Expr} {es : List Expr} {ta : TE} {t : TA} {d : Ls → R Dv} {da : Ls → R (List Dv)} {pl : Sem Bool}
theorem de_meth (hC : X.mg Cn = some (.ref C)) (c : Cls X.K C) (hm : Meth X.K C m g) (F : FnD X wish g f) (h : DE X wish o ta d) (ha : DA X wish (e :: es) t da) (hst : starEach (e :: es) X.env = (false, eval e X.env) :: starEach es X.env := by rfl) (hpl : (backTo pos (starEach es X.env)).any (·.1) = false := by rfl)
    (ht : eval (.Call (.Attribute o m apos) (e :: es) [] pos) X.env = (do let ov ← eval o X.env; standAt apos.atName; let (f, first) ← holding [ov] (getMethod ov m pl); callWith pos f first (backTo pos (starEach (e :: es) X.env)) (backToKw pos (keywordEach [] X.env))) := by rfl) :
    DE X wish (.Call (.Attribute o m apos) (e :: es) [] pos) (tMt (gx X) wish C m f ta t) (dMt Cn m f d da) := ⟨⟨fun pins s σ H Q I hw => by
  refine PySem.W.methodCall_KW (pl := pl) (thn (h.pe.run pins s σ H _ I hw) fun u s1 ⟨x, H1, I1, rx, a, dx, fs, ex, ea, l, q⟩ => ?_) ht
  subst ex
  obtain rfl : u = Value.ref a := rx
  refine getmeth_ok I1 ea c hm l ?_
  refine PySem.W.callWith_K (first := [.ref a]) (h₀ := X.base) I.ok.mod.kin hm.kp (thn (ha.pa.run pos pins s1 σ H1 _ I1 q) fun us s2 ⟨vs, H2, I2, r, W, xs, hW, ok, rl, q2⟩ => ⟨I2.kIn, ?_⟩) hst hpl
  subst hW
  exact F.run pins s2 σ W (.ref a :: us) (.ref a :: vs) xs Q I2 (.cons rfl r) ok rl q2⟩, sim_mt hC h.sim ha.sim⟩
theorem de_meth0 (hC : X.mg Cn = some (.ref C)) (c : Cls X.K C) (hm : Meth X.K C m g) (F : FnD X wish g f) (h : DE X wish o ta d)
    (ht : eval (.Call (.Attribute o m apos) [] [] pos) X.env = (do let ov ← eval o X.env; standAt apos.atName; let (f, first) ← holding [ov] (getMethod ov m pl); callWith pos f first (backTo pos (starEach [] X.env)) (backToKw pos (keywordEach [] X.env))) := by rfl) :
    DE X wish (.Call (.Attribute o m apos) [] [] pos) (tMt (gx X) wish C m f ta tNil) (dMt Cn m f d dNil) := ⟨⟨fun pins s σ H Q I hw => by
  refine PySem.W.methodCall_KW (pl := pl) (thn (h.pe.run pins s σ H _ I hw) fun u s1 ⟨x, H1, I1, rx, a, dx, fs, ex, ea, l, q⟩ => ?_) ht
  subst ex
  obtain rfl : u = Value.ref a := rx
  refine getmeth_ok I1 ea c hm l ?_
  obtain ⟨W, xs, hW, ok, rl, q2⟩ := q
  subst hW
  exact PySem.W.callWith_K0 (first := [.ref a]) I1.kIn hm.kp (F.run pins s1 σ W [.ref a] [.ref a] xs Q I1 (.cons rfl .nil) ok rl q2)⟩, sim_mt hC h.sim (sim_nil (X := Unit) fun _ _ => .nil)⟩
end

/-! ### a new object -/
theorem new_cell {G : Gx} {W : Wd} (ok : WOk G W) {Cn : Str} {C x dx : Addr} (hC : G.mg Cn = some (.ref C)) (hx : W.H x = none) (hd : W.H dx = none) (ne : dx ≠ x) :
    ∃ W', W'.H = upd (upd W.H dx (.own x)) x (.ins C dx []) ∧ W'.rho = W.rho ++ [x] ∧ W'.mem = W.mem ++ [.ins Cn []] ∧ W'.tmp = W.tmp ∧ WOk G W' ∧ CStp W W' := by
  have sm : Same W.H (upd (upd W.H dx (.own x)) x (.ins C dx [])) := fun b o h => by
    rw [upd_ne (ne_of_none h hx), upd_ne (ne_of_none h hd)]
    exact h
  have nohot : ¬ W.hot x := fun h => by obtain ⟨o, q⟩ := ok.hotd x h; rw [hx] at q; cases q
  have norho : x ∉ W.rho := fun h => nohot (ok.hotr x h)
  have z : Fz W.hot W.rho W.H (fun b => W.hot b ∨ b = x) (W.rho ++ [x]) (upd (upd W.H dx (.own x)) x (.ins C dx [])) := ⟨fun a o _ h => sm a o h, fun a o hn h hh => hh.elim hn fun q => (by subst q; rw [hx] at h; cases h), fun a ys h => sm a _ h, fun a o u h => sm a _ h, fun n a h => by rw [List.getElem?_append_left (List.getElem?_eq_some_iff.mp h).1]; exact h⟩
  refine ⟨⟨fun b => W.hot b ∨ b = x, W.rho ++ [x], W.mem ++ [.ins Cn []], _, W.tmp⟩, rfl, rfl, rfl, rfl, ⟨?_, ?_, fun a h => ?_, fun a h => ?_, fun n o a h1 h2 => ?_⟩, ⟨fun a o h _ => sm a o h, fun a ys h => sm a _ h, fun a o u h => sm a _ h, z.pre, fun a h => .inl h, fun a h => h.imp id fun q => by subst q; exact hx, fun a h => ?_, fun a o h => ⟨o, sm a o h⟩⟩⟩
  · show (W.rho ++ [x]).Nodup
    rw [List.nodup_append]
    exact ⟨ok.nd, by simp, fun a ha b hb q => norho (by rw [List.mem_singleton] at hb; rw [← hb, ← q]; exact ha)⟩
  · show (W.rho ++ [x]).length = (W.mem ++ [Ob.ins Cn []]).length
    rw [List.length_append, List.length_append, ok.len]; rfl
  · rcases h with h | h
    · obtain ⟨o, q⟩ := ok.hotd a h; exact ⟨o, sm _ _ q⟩
    · subst h; exact ⟨_, upd_same⟩
  · rcases List.mem_append.mp (show a ∈ W.rho ++ [x] from h) with h | h
    · exact .inl (ok.hotr a h)
    · exact .inr (by simpa using h)
  · have h1' : (W.mem ++ [.ins Cn []])[n]? = some o := h1
    have h2' : (W.rho ++ [x])[n]? = some a := h2
    by_cases hn : n < W.mem.length
    · rw [List.getElem?_append_left hn] at h1'
      rw [List.getElem?_append_left (by rw [ok.len]; exact hn)] at h2'
      exact (ok.cells n o a h1' h2').fz (W' := ⟨_, _, _, _, _⟩) z fun u q => sm a u q
    · have hl := (List.getElem?_eq_some_iff.mp h1').1
      rw [List.length_append, List.length_singleton] at hl
      obtain rfl : n = W.mem.length := by omega
      rw [List.getElem?_append_right (Nat.le_refl _), Nat.sub_self] at h1'
      rw [List.getElem?_append_right (by rw [ok.len]; exact Nat.le_refl _), ok.len, Nat.sub_self] at h2'
      cases h1'; cases h2'
      exact ⟨C, dx, [], hC, upd_same, .nil⟩
  · rcases List.mem_append.mp (show a ∈ W.rho ++ [x] from h) with h | h
    · exact .inl h
    · exact .inr (by rw [List.mem_singleton] at h; subst h; exact hx)
/-- a class that can be made: with so many values its __init__ does what f says -/
structure MkD (X : Cx) (wish : WX) (C : Addr) (f : Den) : Prop where
  kp : PySem.W.keepIn X.K (.ref C) = true
  run : ∀ (pins : List (Addr × Obj)) (s : Shared) (σ : L2.St) (H : Hp) (us : List Value) (vs : List V) (Q : VK), Inv X pins σ H s → Vals vs us → (∀ x dx, H x = none → H dx = none → dx ≠ x → ∃ W xs, W.H = upd (upd H dx (.own x)) x (.ins C dx []) ∧ WOk (gx X) W ∧ RepL (gx X) W (.ref x :: vs) xs ∧
    wantD (gx X) W wish σ (fun v H2 => v = .non ∧ Q (.ref x) H2) (f xs W.mem)) → wpAny (model X.prog X.w) X.A (call (.ref C) us) (EP X pins σ Q) X.xe s
theorem mkD_of0 {X : Cx} {wish : WX} {k n : Nat} {a C : Addr} {fd : FuncData} {ps : List Str} {ex : Bool} {f : Den} {ds : List Value} {dvs : List V} {dds : List Dv} (M : Mk X.K C a) (F : FnOk X.prog X.w X.K X.mg X.base CX0 k a fd ps (spD (gx X) ex n f)) (hr : Room (k + 1) X.A) (hb : Binds X.K fd ps ds) (hd : Vals dvs ds)
    (hdd : ∀ W, RepL (gx X) W dvs dds) : MkD X wish C (withD n dds (noEx f)) := ⟨M.kp, fun pins s σ H us vs Q I r h => run_make M F hr hb hd pass0 I r fun x dx h1 h2 h3 => by
  obtain ⟨W, xs, e1, ok, rl, q⟩ := h x dx h1 h2 h3
  by_cases hl : xs.length + dds.length = n
  · simp only [withD, if_pos hl] at q
    refine ⟨W, xs ++ dds, e1, ok, (by simpa using RepL.append rl (hdd W)), by rw [List.length_append]; exact hl, ?_⟩
    unfold noEx at q
    cases hf : f (xs ++ dds) W.mem with
    | ok x m => rw [hf] at q; exact q
    | err x m => rw [hf] at q; exact q.elim
    | stuck => rw [hf] at q; exact q
  · simp only [withD, if_neg hl] at q
    exact q.elim⟩
def tMk (G : Gx) (wish : WX) (C : Addr) (f : Den) (t : TA) : TE := fun σ H Q => t σ H fun vs H1 => ∀ x dx, H1 x = none → H1 dx = none → dx ≠ x → ∃ W xs, W.H = upd (upd H1 dx (.own x)) x (.ins C dx []) ∧ WOk G W ∧ RepL G W (.ref x :: vs) xs ∧ wantD G W wish σ (fun v H2 => v = .non ∧ Q (.ref x) H2) (f xs W.mem)
def dMk (Cn : Str) (f : Den) (da : Ls → R (List Dv)) : Ls → R Dv := fun s => (da s).bind fun xs s => match f (.ref s.mem.length :: xs) (s.mem ++ [.ins Cn []]) with
  | .ok .non m => .ok (.ref s.mem.length) { s with mem := m }
  | .err x m => .err x { s with mem := m }
  | _ => .stuck
theorem sim_mk {G : Gx} {wish : WX} {Cn : Str} {C : Addr} {f : Den} {t : TA} {da : Ls → R (List Dv)} (hC : G.mg Cn = some (.ref C)) (ha : Sim G (rL G) wish t da) : Sim G (rV G) wish (tMk G wish C f t) (dMk Cn f da) := fun B W σ s Q e p =>
  ha B W σ s _ e (Post.bind (rep := rL G) (rep2 := rV G) p fun xs s1 vs W1 _ e1 z1 r1 p1 => fun x dx h1 h2 h3 => by
    obtain ⟨W', k1, k2, k3, k4, k5, k6⟩ := new_cell e1.wok hC h1 h2 h3
    have hlen : W1.mem.length = s1.mem.length := by rw [e1.mem]
    have hx : W'.rho[s1.mem.length]? = some x := by rw [k2, ← hlen, ← e1.wok.len, List.getElem?_append_right (Nat.le_refl _), Nat.sub_self]; rfl
    refine ⟨W', .ref s1.mem.length :: xs, k1, k5, .cons (.ref hx) (RepX.mono (k6.fz e1.wok) r1), ?_⟩
    have hm : W'.mem = s1.mem ++ [.ins Cn []] := by rw [k3, e1.mem]
    rw [hm]
    cases hf : f (.ref s1.mem.length :: xs) (s1.mem ++ [.ins Cn []]) with
    | stuck => rw [hf] at p1; exact p1.elim
    | err y m =>
      rw [hf] at p1
      intro c d2 W2 ok2 hm2 c2 rp
      obtain ⟨e2, z2⟩ := e1.call ok2 hm2 (k6.trans c2)
      exact p1 c d2 { W2 with tmp := W1.tmp } e2 z2 rp
    | ok y m =>
      rw [hf] at p1
      cases y <;> first | exact p1.elim | skip
      intro v W2 ok2 hm2 c2 rp
      cases rp
      obtain ⟨e2, z2⟩ := e1.call ok2 hm2 (k6.trans c2)
      exact ⟨rfl, p1 (.ref x) { W2 with tmp := W1.tmp } e2 z2 (.ref (c2.pre _ _ hx))⟩)
section
variable {X : Cx} {wish : WX} {C : Addr} {Cn : Str} {f : Den} {p pos : Pos} {e : Expr} {es : List Expr} {t : TA} {da : Ls → R (List Dv)}
theorem de_mk (M : MkD X wish C f) (hg : Gl X Cn) (hC : X.mg Cn = some (.ref C)) (ha : DA X wish (e :: es) t da) (hdb : (Cn == ("__debug__" : Str)) = false := by decide) (he : starEach (e :: es) X.env = (false, eval e X.env) :: starEach es X.env := by rfl)
    (hpl : (backTo pos (starEach es X.env)).any (·.1) = false := by rfl) : DE X wish (.Call (.Name Cn p) (e :: es) [] pos) (tMk (gx X) wish C f t) (dMk Cn f da) := ⟨⟨fun pins s σ H Q I h => by
  refine wpAny_Call_Name_kw (ld_glob I hg hC ?_ hdb)
  exact PySem.W.callWith_K (h₀ := X.base) I.ok.mod.kin M.kp (thn (ha.pa.run pos pins s σ H _ I h) fun us s1 ⟨vs, H1, I1, r, q⟩ => ⟨I1.kIn, M.run pins s1 σ H1 us vs Q I1 r q⟩) he hpl⟩, sim_mk hC ha.sim⟩
theorem de_mk0 (M : MkD X wish C f) (hg : Gl X Cn) (hC : X.mg Cn = some (.ref C)) (hdb : (Cn == ("__debug__" : Str)) = false := by decide) : DE X wish (.Call (.Name Cn p) [] [] pos) (tMk (gx X) wish C f tNil) (dMk Cn f dNil) := ⟨⟨fun pins s σ H Q I h => by
  refine wpAny_Call_Name_kw (ld_glob I hg hC ?_ hdb)
  exact PySem.W.callWith_K0 I.kIn M.kp (M.run pins s σ H [] [] Q I .nil h)⟩, sim_mk hC (sim_nil (X := Unit) fun _ _ => .nil)⟩
end
end DD

/-! D11: list comprehensions as expressions; several names at once; a list walked in the store -/
namespace DD
open PySem L2
open PyProof.Rows hiding St

/-! ### comprehensions -/
/-- inner parts of a comprehension: in each block's context -/
abbrev Blk (X : Cx) (scope : Scope) (P : Cx → Prop) : Prop := ∀ (s : Shared) (H : Hp) (C : Addr) (cl : List (Str × Addr)) (fp : List Addr), P (X.blk s H scope (compEnvC scope cl C X.env) fp)
structure DTs (X : Cx) (wish : WX) (ifs : List Expr) (t : TT) (d : Ls → R Bool) : Prop where
  pt : PTs X ifs t
  sim : Sim (gx X) rB wish t d
def dYes : Ls → R Bool := fun s => .ok true s
theorem dts_nil {X : Cx} {wish : WX} : DTs X wish [] tYes dYes := ⟨pts_nil, fun B W σ s Q e p => p true W e Stp.refl rfl⟩
theorem dts_one {X : Cx} {wish : WX} {c : Expr} {t : TT} {d : Ls → R Bool} (h : DT X wish c t d) : DTs X wish [c] t d := ⟨pts_one h.pt, h.sim⟩
section
variable {X : Cx} {wish : WX} {elt tg iter : Expr} {ifs : List Expr} {scope : Scope} {own : List (Str × Nat)} {pos : Pos} {wi : TI} {g : TG} {tt : TT} {te : TE} {tv : List Nat} {src : Ls → R Src} {dg : Dv → Ls → Option Ls} {dt : Ls → R Bool} {el : Ls → R Dv}
theorem dn_lc (hc : X.calm = true) (hN : X.N.Nodup) (hi : DI X wish tg iter wi src) (ok : BlkOk X.N X.env.scope scope own)
    (hg : ∀ (s : Shared) (H : Hp) (C : Addr) (cl : List (Str × Addr)) (fp : List Addr), DG (X.blk s H scope (compEnvC scope cl C X.env) fp) tg g tv dg) (ht : ∀ (s : Shared) (H : Hp) (C : Addr) (cl : List (Str × Addr)) (fp : List Addr), DTs (X.blk s H scope (compEnvC scope cl C X.env) fp) noX ifs tt dt) (he : ∀ (s : Shared) (H : Hp) (C : Addr) (cl : List (Str × Addr)) (fp : List Addr), DE (X.blk s H scope (compEnvC scope cl C X.env) fp) noX elt te el) (htv : ∀ j ∈ tv, j ∈ own.map (·.2) := by decide)
    (hs : ∀ x, foldedSetIterable iter X.env x = pure x := by intro _; rfl) : DN X wish (.ListComp elt [⟨tg, iter, ifs, 0⟩] scope pos) (tLc wi g tt te (own.map (·.2))) (dLcN src (own.map (·.2)) dg dt el) :=
  ⟨pe_lc hc hN hi.pi ok (fun s H C cl fp => (hg s H C cl fp).pg) (fun s H C cl fp => (ht s H C cl fp).pt) (fun s H C cl fp => (he s H C cl fp).pe) hs,
    sim_lc hi.sim (hg X.s_0 X.H_0 0 [] []).sim htv (ht X.s_0 X.H_0 0 [] []).sim (he X.s_0 X.H_0 0 [] []).sim⟩
theorem ds_setLc {i : Nat} {y : Str} {py spos : Pos} (hc : X.calm = true) (hN : X.N.Nodup) (hy : X.N[i]? = some y) (hyl : X.env.scope.names.lookup y = some .local) (hsw : swapsWith (.ListComp elt [⟨tg, iter, ifs, 0⟩] scope pos) (some (.Name y py)) spos.line X.env = pure true) (hi : DI X wish tg iter wi src) (ok : BlkOk X.N X.env.scope scope own)
    (hg : ∀ (s : Shared) (H : Hp) (C : Addr) (cl : List (Str × Addr)) (fp : List Addr), DG (X.blk s H scope (compEnvC scope cl C X.env) fp) tg g tv dg) (ht : ∀ (s : Shared) (H : Hp) (C : Addr) (cl : List (Str × Addr)) (fp : List Addr), DTs (X.blk s H scope (compEnvC scope cl C X.env) fp) noX ifs tt dt) (he : ∀ (s : Shared) (H : Hp) (C : Addr) (cl : List (Str × Addr)) (fp : List Addr), DE (X.blk s H scope (compEnvC scope cl C X.env) fp) noX elt te el) (htv : ∀ j ∈ tv, j ∈ own.map (·.2) := by decide)
    (hs : ∀ x, foldedSetIterable iter X.env x = pure x := by intro _; rfl) : DS X wish (.Assign [.Name y py] (.ListComp elt [⟨tg, iter, ifs, 0⟩] scope pos) spos) (tAsg (tLc wi g tt te (own.map (·.2))) (gName i)) (dAsgN i (dLcN src (own.map (·.2)) dg dt el)) :=
  ⟨ps_setLc hc hN hy hyl hsw hi.pi ok (fun s H C cl fp => (hg s H C cl fp).pg) (fun s H C cl fp => (ht s H C cl fp).pt) (fun s H C cl fp => (he s H C cl fp).pe) hs,
    sim_asgN (sim_lc hi.sim (hg X.s_0 X.H_0 0 [] []).sim htv (ht X.s_0 X.H_0 0 [] []).sim (he X.s_0 X.H_0 0 [] []).sim)⟩
end

/-! ### several names at once: the values may be new lists -/
inductive Itm where
  | dv (x : Dv)
  | nl (n : Nat)
  deriving Inhabited
def rItm (G : Gx) (W : Wd) (v : V) : Itm → Prop
  | .dv x => Rep G W v x
  | .nl n => ∃ p, W.tmp[n]? = some p ∧ v = .ref p
def rItms (G : Gx) : L2.St → Wd → List V → List Itm → Prop := fun _ W vs its => Paired (rItm G W) vs its
theorem rItm.mono {G : Gx} {W W' : Wd} {v : V} {i : Itm} (h : rItm G W v i) (z : Stp W W') : rItm G W' v i := by
  cases i with
  | dv x => exact RepX.mono z.fz h
  | nl n => obtain ⟨p, h1, h2⟩ := h; exact ⟨p, z.tmp _ _ h1, h2⟩
structure DM (X : Cx) (wish : WX) (es : List Expr) (ta : TA) (d : Ls → R (List Itm)) : Prop where
  pa : PA X es ta
  sim : Sim (gx X) (rItms (gx X)) wish ta d
def dmNil : Ls → R (List Itm) := fun s => .ok [] s
def dmV (d : Ls → R Dv) (da : Ls → R (List Itm)) : Ls → R (List Itm) := fun s => (d s).bind fun x s => (da s).bind fun xs s => .ok (.dv x :: xs) s
def dmN (d : Ls → R Nat) (da : Ls → R (List Itm)) : Ls → R (List Itm) := fun s => (d s).bind fun x s => (da s).bind fun xs s => .ok (.nl x :: xs) s
section
variable {X : Cx} {wish : WX} {e : Expr} {es : List Expr} {te : TE} {ta : TA} {d : Ls → R Dv} {dn : Ls → R Nat} {da : Ls → R (List Itm)}
theorem dm_nil : DM X wish [] tNil dmNil := ⟨pa_nil, fun B W σ s Q e p => p [] W e Stp.refl .nil⟩
theorem dm_v (h : DE X wish e te d) (hr : DM X wish es ta da) (hs : starEach (e :: es) X.env = (false, eval e X.env) :: starEach es X.env := by rfl) : DM X wish (e :: es) (tCons te ta) (dmV d da) := ⟨pa_cons h.pe hr.pa hs, fun B W σ s Q e p =>
  h.sim B W σ s _ e (Post.bind (rep := rV (gx X)) (rep2 := rItms (gx X)) p fun x s1 v W1 _ e1 z1 r1 p1 =>
    hr.sim B W1 σ s1 _ e1 (Post.bind (rep := rItms (gx X)) (rep2 := rItms (gx X)) p1 fun xs s2 vs W2 _ e2 z2 r2 p2 => p2 (v :: vs) W2 e2 Stp.refl (.cons (show rItm (gx X) W2 v (.dv x) from RepX.mono z2.fz r1) r2)))⟩
theorem dm_n (h : DN X wish e te dn) (hr : DM X wish es ta da) (hs : starEach (e :: es) X.env = (false, eval e X.env) :: starEach es X.env := by rfl) : DM X wish (e :: es) (tCons te ta) (dmN dn da) := ⟨pa_cons h.pe hr.pa hs, fun B W σ s Q e p =>
  h.sim B W σ s _ e (Post.bind (rep := rN (gx X)) (rep2 := rItms (gx X)) p fun x s1 v W1 _ e1 z1 r1 p1 =>
    hr.sim B W1 σ s1 _ e1 (Post.bind (rep := rItms (gx X)) (rep2 := rItms (gx X)) p1 fun xs s2 vs W2 _ e2 z2 r2 p2 => p2 (v :: vs) W2 e2 Stp.refl (.cons (show rItm (gx X) W2 v (.nl x) from rN.mono (σ := σ) r1 z2) r2)))⟩
end
/-- one item goes into a slot -/
def stI (lo i : Nat) : Itm → Ls → Option Ls
  | .dv x, s => stV i x s
  | .nl n, s => if lo ≤ n then stN i n s else none
/-- from the right -/
def stIs (lo : Nat) : List Nat → List Itm → Ls → Option Ls
  | [], [], s => some s
  | i :: is, x :: xs, s => (stIs lo is xs s).bind (stI lo i x)
  | _, _, _ => none
theorem stI_emb {G : Gx} {B W0 W : Wd} {σ : L2.St} {s s' : Ls} {lo i : Nat} {v : V} {it : Itm} (e : Emb G B W σ s) (z : Stp W0 W) (hlo : W0.tmp.length ≤ lo) (h : stI lo i it s = some s') (r : rItm G W v it) :
    ∃ W', W'.H = W.H ∧ Emb G B W' (σ.set i (some v)) s' ∧ Stp W0 W' ∧ (∀ u x, Rep G W u x → Rep G W' u x) ∧ (∀ (m : Nat) p, m + 1 < s.tmp.length ∨ (∃ x, it = .dv x) → W.tmp[m]? = some p → W'.tmp[m]? = some p) := by
  cases it with
  | dv x =>
    simp only [stI, stV] at h
    split at h
    · rename_i hi
      cases h
      exact ⟨W, rfl, e.setv hi r, z, fun _ _ r => r, fun _ _ _ h => h⟩
    · cases h
  | nl n =>
    simp only [stI] at h
    split at h
    · rename_i hl
      obtain ⟨ds, h1, h2, h3, rfl⟩ := stN_some h
      obtain ⟨p, hp, rfl⟩ := r
      refine ⟨{ W with tmp := W.tmp.dropLast }, rfl, e.seto h2 h1 hp h3, z.pop (n := n) (by rw [← e.tmpL, h3]) (by omega), fun _ _ r => r, fun m q hm hq => ?_⟩
      rcases hm with hm | ⟨x, hx⟩
      · show W.tmp.dropLast[m]? = some q
        rw [getElem?_dropLast (by rw [← e.tmpL]; exact hm)]
        exact hq
      · cases hx
    · cases h
/-- new lists stand in their order -/
def incr : Nat → List Itm → Bool
  | _, [] => true
  | k, .dv _ :: r => incr k r
  | k, .nl n :: r => decide (k ≤ n) && incr (n + 1) r
theorem stIs_len {lo : Nat} : ∀ {is : List Nat} {its : List Itm} {s s' : Ls}, stIs lo is its s = some s' → is.length = its.length
  | [], [], _, _, _ => rfl
  | [], _ :: _, _, _, h => by cases h
  | _ :: _, [], _, _, h => by cases h
  | i :: is, x :: xs, s, s', h => by
    unfold stIs at h
    obtain ⟨s1, h1, _⟩ := bind1 h
    rw [List.length_cons, List.length_cons, stIs_len h1]
def setAll : List Nat → List V → L2.St → L2.St
  | i :: is, v :: vs, σ => (setAll is vs σ).set i (some v)
  | _, _, σ => σ
/-- all that stand to the left of what is stored are still held -/
theorem stIs_emb {G : Gx} {B W0 : Wd} {lo : Nat} : ∀ {is : List Nat} {its : List Itm} {vs : List V} {W : Wd} {σ : L2.St} {s s' : Ls} {k : Nat}, Emb G B W σ s → Stp W0 W → W0.tmp.length ≤ lo → stIs lo is its s = some s' → Paired (rItm G W) vs its → incr k its = true →
    ∃ W', W'.H = W.H ∧ Emb G B W' (setAll is vs σ) s' ∧ Stp W0 W' ∧ (∀ u x, Rep G W u x → Rep G W' u x) ∧ (∀ (m : Nat) p, m < k → W.tmp[m]? = some p → W'.tmp[m]? = some p)
  | [], [], _, W, σ, s, s', k, e, z, hl, h, .nil, _ => by
    cases h
    exact ⟨W, rfl, e, z, fun _ _ r => r, fun _ _ _ h => h⟩
  | [], _ :: _, _, _, _, _, _, _, _, _, _, h, _, _ => by cases h
  | _ :: _, [], _, _, _, _, _, _, _, _, _, h, _, _ => by cases h
  | i :: is, it :: its, v :: vs, W, σ, s, s', k, e, z, hl, h, .cons r rs, hi => by
    unfold stIs at h
    obtain ⟨s1, h1, h2⟩ := bind1 h
    cases it with
    | dv x =>
      obtain ⟨W1, g1, g2, g3, g4, g5⟩ := stIs_emb (k := k) e z hl h1 rs hi
      obtain ⟨W2, k1, k2, k3, k4, k5⟩ := stI_emb (it := .dv x) g2 g3 hl h2 (g4 _ _ r)
      exact ⟨W2, k1.trans g1, k2, k3, fun u x r => k4 _ _ (g4 _ _ r), fun m p hm hp => k5 m p (.inr ⟨x, rfl⟩) (g5 m p hm hp)⟩
    | nl n =>
      rw [incr, Bool.and_eq_true] at hi
      obtain ⟨W1, g1, g2, g3, g4, g5⟩ := stIs_emb (k := n + 1) e z hl h1 rs hi.2
      obtain ⟨p, hp, hv⟩ := r
      obtain ⟨W2, k1, k2, k3, k4, k5⟩ := stI_emb (it := .nl n) g2 g3 hl h2 ⟨p, g5 n p (Nat.lt_succ_self _) hp, hv⟩
      have hkn : k ≤ n := of_decide_eq_true hi.1
      refine ⟨W2, k1.trans g1, k2, k3, fun u x r => k4 _ _ (g4 _ _ r), fun m q hm hq => k5 m q (.inl ?_) (g5 m q (by omega) hq)⟩
      simp only [stI] at h2
      split at h2
      · obtain ⟨_, _, _, h3, _⟩ := stN_some h2
        omega
      · cases h2
def dPar (is : List Nat) (da : Ls → R (List Itm)) : Ls → Fl := fun s0 => (da s0).fl fun its s => if incr 0 its = true then (match stIs s0.tmp.length is its s with
  | some s => .nx s
  | none => .stuck) else .stuck
theorem rItms_len {G : Gx} {W : Wd} : ∀ {l : List V} {m : List Itm}, Paired (rItm G W) l m → l.length = m.length
  | _, _, .nil => rfl
  | _, _, .cons _ r => by rw [List.length_cons, List.length_cons, rItms_len r]
theorem sim_par' {G : Gx} {wish : WX} {ta : TA} {da : Ls → R (List Itm)} {is : List Nat} (h : Sim G (rItms G) wish ta da) (K : Ends → L2.St → List V → Hp → Prop) (hK : ∀ D σ vs H1, vs.length = is.length → D.nx (setAll is vs σ) H1 → K D σ vs H1) : SimS G wish (fun D σ H => ta σ H (K D σ)) (dPar is da) := fun B W σ s D e p => by
  refine h B W σ s _ e ?_
  unfold dPar at p
  cases hd : da s with
  | err x s1 => rw [hd] at p; exact fun c dx W' e' z r => p σ c dx W' e' z r
  | stuck => rw [hd] at p; exact p
  | ok its s1 =>
    rw [hd] at p
    simp only [R.fl_ok] at p
    intro vs W1 e1 z1 r1
    split at p
    · rename_i hinc
      cases hst : stIs s.tmp.length is its s1 with
      | none => simp only [hst] at p; exact p.elim
      | some s2 =>
        simp only [hst] at p
        obtain ⟨W2, k1, k2, k3, _, _⟩ := stIs_emb (W0 := W) e1 z1 (by rw [e.tmpL]; exact Nat.le_refl _) hst r1 hinc
        rw [← k1]
        exact hK D σ vs W2.H (by rw [rItms_len r1, ← stIs_len hst]) (p _ W2 k2 k3)
    · exact p.elim
section
variable {X : Cx} {wish : WX} {i j l : Nat} {x y z : Str} {a b c : Expr} {ta : TA} {px py pz pt pos : Pos} {kt : Nat} {k2 : Nat} {pt2 : Pos} {da : Ls → R (List Itm)}
theorem ds_par (hc : X.calm = true) (hN : X.N.Nodup) (hi : X.N[i]? = some x) (hj : X.N[j]? = some y) (hij : i ≠ j)
    (hx : X.env.scope.names.lookup x = some .local) (hy : X.env.scope.names.lookup y = some .local) (ha : DM X wish [a, b] ta da)
    (hw : swappedStores [.Tuple [.Name x px, .Name y py] kt pt] (.Tuple [a, b] k2 pt2) X.env = pure (some [x, y]))
    (hs : swapsWithSole [.Tuple [.Name x px, .Name y py] kt pt] (.Tuple [a, b] k2 pt2) pos.line X.env = pure false := by rfl) :
    DS X wish (.Assign [.Tuple [.Name x px, .Name y py] kt pt] (.Tuple [a, b] k2 pt2) pos) (tPar i j ta) (dPar [i, j] da) :=
  ⟨ps_par hc hN hi hj hij hx hy ha.pa hw hs, sim_par' ha.sim (fun D σ vs H1 => ∃ v w, vs = [v, w] ∧ D.nx ((σ.set i (some v)).set j (some w)) H1) fun D σ vs H1 hl q => by
    match vs, hl with
    | [v, w], _ => exact ⟨v, w, rfl, by rw [List.set_comm _ _ hij]; exact q⟩⟩
theorem ds_par3 (hc : X.calm = true) (hN : X.N.Nodup) (hi : X.N[i]? = some x) (hj : X.N[j]? = some y) (hl : X.N[l]? = some z) (hij : i ≠ j) (hil : i ≠ l) (hjl : j ≠ l)
    (hx : X.env.scope.names.lookup x = some .local) (hy : X.env.scope.names.lookup y = some .local) (hz : X.env.scope.names.lookup z = some .local) (ha : DM X wish [a, b, c] ta da)
    (hw : swappedStores [.Tuple [.Name x px, .Name y py, .Name z pz] kt pt] (.Tuple [a, b, c] k2 pt2) X.env = pure (some [x, y, z]))
    (hs : swapsWithSole [.Tuple [.Name x px, .Name y py, .Name z pz] kt pt] (.Tuple [a, b, c] k2 pt2) pos.line X.env = pure false := by rfl) :
    DS X wish (.Assign [.Tuple [.Name x px, .Name y py, .Name z pz] kt pt] (.Tuple [a, b, c] k2 pt2) pos) (tPar3 i j l ta) (dPar [i, j, l] da) :=
  ⟨ps_par3 hc hN hi hj hl hij hil hjl hx hy hz ha.pa hw hs, sim_par' ha.sim (fun D σ vs H1 => ∃ u v w, vs = [u, v, w] ∧ D.nx (((σ.set i (some u)).set j (some v)).set l (some w)) H1) fun D σ vs H1 hlen q => by
    match vs, hlen with
    | [u, v, w], _ =>
      refine ⟨u, v, w, rfl, ?_⟩
      have q' : D.nx (((σ.set l (some w)).set j (some v)).set i (some u)) H1 := q
      rw [List.set_comm (some w) (some v) hjl.symm, List.set_comm (some w) (some u) hil.symm, List.set_comm (some v) (some u) hij.symm] at q'
      exact q'⟩
end

/-! ### a list, settled or in the store, is walked -/
noncomputable def stands (n : Nat) (ds : List Dv) : List Ob → Bool := fun m => @decide (m[n]? = some (Ob.lst ds)) (Classical.propDecidable _)
theorem itOk_ref {G : Gx} {W0 : Wd} {a : Addr} {n : Nat} {ds : List Dv} (hr : W0.rho[n]? = some a) : ItOk G W0 (Itl G.K a) ⟨ds, stands n ds⟩ where
  go := fun W z ok hc i d hd => by
    have hm : W.mem[n]? = some (.lst ds) := @of_decide_eq_true _ (Classical.propDecidable _) hc
    obtain ⟨xs, h1, r⟩ := ok.cells n _ a hm (z.fz.pre _ _ hr)
    obtain ⟨v, q1, q2⟩ := RepL.getD r hd
    refine ⟨⟨xs, v, SqL.of h1, q1⟩, fun x H' y => ?_⟩
    obtain ⟨e, y⟩ := y
    subst e
    have := y xs (SqL.of h1)
    rw [q1] at this
    cases this
    exact ⟨Same.refl _, q2⟩
  stop := fun W z ok hc => by
    have hm : W.mem[n]? = some (.lst ds) := @of_decide_eq_true _ (Classical.propDecidable _) hc
    obtain ⟨xs, h1, r⟩ := ok.cells n _ a hm (z.fz.pre _ _ hr)
    exact ⟨xs, SqL.of h1, by rw [RepL.length r]; exact Nat.le_refl _⟩
theorem itOk_scr {G : Gx} {W0 : Wd} {a : Addr} {ns : List Int} (h : ScrAt G.K W0.hot W0.H a (ns.map V.int)) : ItOk G W0 (Itl G.K a) ⟨ns.map .int, always⟩ where
  go := fun W z ok _ i d hd => by
    have hq : SqL G.K W.H a (ns.map V.int) := (z.fz.scr h).seq
    rw [List.getElem?_map] at hd
    obtain ⟨k, hk, rfl⟩ := Option.map_eq_some_iff.mp hd
    have hv : (ns.map V.int)[i]? = some (.int k) := by rw [List.getElem?_map, hk]; rfl
    refine ⟨⟨_, _, hq, hv⟩, fun x H' y => ?_⟩
    obtain ⟨e, y⟩ := y
    subst e
    have := y _ hq
    rw [hv] at this
    cases this
    exact ⟨Same.refl _, .int k⟩
  stop := fun W z ok _ => ⟨_, (z.fz.scr h).seq, by simp⟩
/-- anything that a loop walks by itself -/
noncomputable def dSrcA (d : Ls → R Dv) : Ls → R Src := fun s => (d s).bind fun x s => match x with
  | .lst ds => .ok ⟨ds, always⟩ s
  | .tup ds => .ok ⟨ds, always⟩ s
  | .str x => .ok ⟨x.cps.toList.map fun c => .str ⟨#[c]⟩, always⟩ s
  | .scr ns => .ok ⟨ns.map .int, always⟩ s
  | .ref n => (match s.mem[n]? with
    | some (.lst ds) => .ok ⟨ds, stands n ds⟩ s
    | _ => .stuck)
  | _ => .stuck
theorem sim_srcA {G : Gx} {wish : WX} {te : TE} {d : Ls → R Dv} (h : Sim G (rV G) wish te d) : Sim G (rI G) wish (iSeq G.K te) (dSrcA d) := fun B W σ s Q e p => by
  cases hd : d s with
  | stuck => simp only [dSrcA, hd] at p; exact p.elim
  | err x s1 =>
    simp only [dSrcA, hd] at p
    exact .inl (h B W σ s _ e (by rw [hd]; exact p))
  | ok x s1 =>
    have p0 := p
    simp only [dSrcA, hd] at p0
    cases x <;> first | exact p0.elim | skip
    · exact .inr (.inr (h B W σ s _ e (by rw [hd]; exact fun v W1 e1 z1 r1 => (by cases r1; exact ⟨_, rfl, p0 _ W1 e1 z1 itOk_str⟩))))
    · exact .inr (.inl (h B W σ s _ e (by rw [hd]; exact fun v W1 e1 z1 r1 => (by cases r1 with | tup q1 q2 => exact ⟨_, rfl, ⟨_, q1⟩, p0 _ W1 e1 z1 (itOk_tup q1 q2)⟩))))
    · exact .inl (h B W σ s _ e (by rw [hd]; exact fun v W1 e1 z1 r1 => (by cases r1 with | lst q1 q2 q3 => exact ⟨_, rfl, ⟨_, SqL.of q1⟩, p0 _ W1 e1 z1 (itOk_list q1 q2 q3)⟩)))
    · exact .inl (h B W σ s _ e (by rw [hd]; exact fun v W1 e1 z1 r1 => (by cases r1 with | scr q1 => exact ⟨_, rfl, ⟨_, q1.seq⟩, p0 _ W1 e1 z1 (itOk_scr q1)⟩)))
    · rename_i n
      refine .inl (h B W σ s _ e ?_)
      rw [hd]
      intro v W1 e1 z1 r1
      cases r1 with
      | ref hr =>
        cases hm : s1.mem[n]? with
        | none => simp only [R.bind_ok, hm] at p0; exact p0.elim
        | some o =>
          cases o <;> simp only [R.bind_ok, hm] at p0 <;> first | exact p0.elim | skip
          rw [e1.mem] at hm
          obtain ⟨xs, h1, r⟩ := e1.wok.cells n _ _ hm hr
          exact ⟨_, rfl, ⟨_, SqL.of h1⟩, p0 _ W1 e1 z1 (itOk_ref hr)⟩
theorem di_seqA {X : Cx} {wish : WX} {tg l : Expr} {te : TE} {d : Ls → R Dv} (h : DE X wish l te d) : DI X wish tg l (iSeq X.K te) (dSrcA d) := ⟨pi_seq h.pe, sim_srcA h.sim⟩
end DD

/-! D12: built-in functions, one by one; new lists by functions and operators -/
namespace DD
open PySem L2
open PyProof.Rows hiding St

theorem ViewL.one {G : Gx} {W : Wd} {vs : List V} {x : Dv} (h : ViewL G W vs [x]) : ∃ v, vs = [v] ∧ View G W v x := by
  cases h with
  | cons r t => cases t; exact ⟨_, rfl, r⟩
theorem ViewL.two {G : Gx} {W : Wd} {vs : List V} {x y : Dv} (h : ViewL G W vs [x, y]) : ∃ v w, vs = [v, w] ∧ View G W v x ∧ View G W w y := by
  cases h with
  | cons r t => cases t with
    | cons r' t' => cases t'; exact ⟨_, _, rfl, r, r'⟩

/-! len -/
def fLen : List Dv → Option Dv
  | [.str x] => guard' (szOk x.length) (.int x.length)
  | [.lst xs] => some (.int xs.length)
  | [.tup xs] => some (.int xs.length)
  | [.scr xs] => some (.int xs.length)
  | _ => none
def rLenA (K : PySem.W.Frag) : List V → Hp → VK → Prop := fun xs H Q => ∃ x n, xs = [x] ∧ LenV K x H n ∧ Q (.int n) H
theorem pure_len {G : Gx} : PureC G (rLenA G.K) fLen := by
  intro W vs xs Q z ok hv hf k
  unfold fLen at hf
  split at hf
  · obtain ⟨v, rfl, r⟩ := hv.one
    cases r
    obtain ⟨h1, rfl⟩ := guard'_some hf
    exact ⟨_, _, rfl, ⟨szOk.le h1, rfl⟩, k _ _ (Same.refl _) (.int _)⟩
  · obtain ⟨v, rfl, r⟩ := hv.one
    cases hf
    obtain ⟨a, ys, rfl, h1, h2⟩ := r
    exact ⟨_, _, rfl, .inl ⟨ys, SqL.of h1, rfl⟩, by rw [RepL.length h2]; exact k _ _ (Same.refl _) (.int _)⟩
  · obtain ⟨v, rfl, r⟩ := hv.one
    cases hf
    cases r with
    | tup h1 h2 => exact ⟨_, _, rfl, .inr ⟨_, h1, rfl⟩, by rw [RepL.length h2]; exact k _ _ (Same.refl _) (.int _)⟩
  · obtain ⟨v, rfl, r⟩ := hv.one
    cases hf
    cases r with
    | scr h1 => exact ⟨_, _, rfl, .inl ⟨_, h1.seq, rfl⟩, by rw [List.length_map]; exact k _ _ (Same.refl _) (.int _)⟩
  · cases hf

/-! abs, int, bool, str, min, max of two -/
def fAbs : List Dv → Option Dv
  | [.int i] => some (.int (if i < 0 then -i else i))
  | _ => none
theorem pure_abs {G : Gx} : PureC G (fun xs H Q => ∃ i, xs = [.int i] ∧ Q (.int (if i < 0 then -i else i)) H) fAbs := by
  intro W vs xs Q z ok hv hf k
  unfold fAbs at hf
  split at hf
  · obtain ⟨v, rfl, r⟩ := hv.one
    cases r; cases hf
    exact ⟨_, rfl, k _ _ (Same.refl _) (.int _)⟩
  · cases hf
def fInt : List Dv → Option Dv
  | [.int i] => some (.int i)
  | [.bl b] => some (.int (if b = true then 1 else 0))
  | [.str x] => (PySem.intText? x).bind fun n => guard' (decide (x.length ≤ 640)) (.int n)
  | _ => none
def rIntA : List V → Hp → VK → Prop := fun xs H Q => ((∃ i, xs = [.int i] ∧ Q (.int i) H) ∨ ∃ k : Bool, xs = [.bl k] ∧ Q (.int (if k then 1 else 0)) H) ∨ (∃ a n, xs = [.str a] ∧ PySem.intText? a = some n ∧ a.length ≤ 640 ∧ Q (.int n) H)
theorem call_intA {X : Cx} : CallR X (.type "int") rIntA := CallR.or call_int1 call_int_str
theorem pure_int {G : Gx} : PureC G rIntA fInt := by
  intro W vs xs Q z ok hv hf k
  unfold fInt at hf
  split at hf
  · obtain ⟨v, rfl, r⟩ := hv.one
    cases r; cases hf
    exact .inl (.inl ⟨_, rfl, k _ _ (Same.refl _) (.int _)⟩)
  · obtain ⟨v, rfl, r⟩ := hv.one
    cases r; cases hf
    exact .inl (.inr ⟨_, rfl, k _ _ (Same.refl _) (.int _)⟩)
  · obtain ⟨v, rfl, r⟩ := hv.one
    cases r
    obtain ⟨n, h1, h2⟩ := bind1 hf
    obtain ⟨h3, rfl⟩ := guard'_some h2
    exact .inr ⟨_, n, rfl, h1, of_decide_eq_true h3, k _ _ (Same.refl _) (.int _)⟩
  · cases hf
def fBool : List Dv → Option Dv
  | [.int i] => some (.bl (i != 0))
  | [.bl b] => some (.bl b)
  | _ => none
theorem pure_bool {G : Gx} : PureC G (fun xs H Q => (∃ i, xs = [.int i] ∧ Q (.bl (i != 0)) H) ∨ ∃ k, xs = [.bl k] ∧ Q (.bl k) H) fBool := by
  intro W vs xs Q z ok hv hf k
  unfold fBool at hf
  split at hf
  · obtain ⟨v, rfl, r⟩ := hv.one
    cases r; cases hf
    exact .inl ⟨_, rfl, k _ _ (Same.refl _) (.bl _)⟩
  · obtain ⟨v, rfl, r⟩ := hv.one
    cases r; cases hf
    exact .inr ⟨_, rfl, k _ _ (Same.refl _) (.bl _)⟩
  · cases hf
def fStrI : List Dv → Option Dv
  | [.int i] => guard' (decide (i.natAbs.log2 < 1920)) (.str (toString i))
  | _ => none
theorem pure_strI {G : Gx} : PureC G (fun xs H Q => ∃ i, xs = [.int i] ∧ i.natAbs.log2 < 1920 ∧ Q (.str (toString i)) H) fStrI := by
  intro W vs xs Q z ok hv hf k
  unfold fStrI at hf
  split at hf
  · obtain ⟨v, rfl, r⟩ := hv.one
    cases r
    obtain ⟨h1, rfl⟩ := guard'_some hf
    exact ⟨_, rfl, of_decide_eq_true h1, k _ _ (Same.refl _) (.str _)⟩
  · cases hf
def fMax2 : List Dv → Option Dv
  | [.int i, .int j] => some (.int (if j > i then j else i))
  | _ => none
theorem pure_max2 {G : Gx} : PureC G (fun xs H Q => ∃ i j, xs = [.int i, .int j] ∧ Q (.int (if j > i then j else i)) H) fMax2 := by
  intro W vs xs Q z ok hv hf k
  unfold fMax2 at hf
  split at hf
  · obtain ⟨v, w, rfl, r, r'⟩ := hv.two
    cases r; cases r'; cases hf
    exact ⟨_, _, rfl, k _ _ (Same.refl _) (.int _)⟩
  · cases hf
def fMin2 : List Dv → Option Dv
  | [.int i, .int j] => some (.int (if j < i then j else i))
  | _ => none
theorem pure_min2 {G : Gx} : PureC G (fun xs H Q => ∃ i j, xs = [.int i, .int j] ∧ Q (.int (if j < i then j else i)) H) fMin2 := by
  intro W vs xs Q z ok hv hf k
  unfold fMin2 at hf
  split at hf
  · obtain ⟨v, w, rfl, r, r'⟩ := hv.two
    cases r; cases r'; cases hf
    exact ⟨_, _, rfl, k _ _ (Same.refl _) (.int _)⟩
  · cases hf
/-! lists of ints, of bools -/
def toI : Dv → Option Int
  | .int i => some i
  | _ => none
def toIs : List Dv → Option (List Int)
  | [] => some []
  | x :: xs => match toI x, toIs xs with
    | some i, some is => some (i :: is)
    | _, _ => none
theorem toIs_rep {G : Gx} {hot : Addr → Prop} {rho : List Addr} {H : Hp} : ∀ {vs : List V} {ds : List Dv} {is : List Int}, RepX G hot rho H true .non .non vs ds → toIs ds = some is → vs = is.map V.int
  | _, _, _, .nil, h => by cases h; rfl
  | _, _, _, .cons (d := d) r t, h => by
    simp only [toIs] at h
    split at h
    · rename_i i js h1 h2
      cases h
      cases d <;> simp [toI] at h1
      subst h1
      cases r
      rw [toIs_rep t h2]; rfl
    · cases h
def toBs : List Dv → Option (List Bool)
  | [] => some []
  | .bl b :: xs => (toBs xs).map (b :: ·)
  | _ :: _ => none
theorem toBs_rep {G : Gx} {hot : Addr → Prop} {rho : List Addr} {H : Hp} : ∀ {vs : List V} {ds : List Dv} {is : List Bool}, RepX G hot rho H true .non .non vs ds → toBs ds = some is → vs = is.map V.bl
  | _, _, _, .nil, h => by cases h; rfl
  | _, _, _, .cons (d := d) r t, h => by
    cases d <;> simp only [toBs] at h <;> first | (cases h; done) | skip
    obtain ⟨bs, h1, rfl⟩ := Option.map_eq_some_iff.mp h
    cases r
    rw [toBs_rep t h1]; rfl
theorem toIs_ints {is : List Int} : toIs (is.map Dv.int) = some is := by
  induction is with
  | nil => rfl
  | cons i is ih => simp [toIs, toI, ih]
theorem RepL.ints {G : Gx} {hot : Addr → Prop} {rho : List Addr} {H : Hp} : ∀ is : List Int, RepX G hot rho H true .non .non (is.map V.int) (is.map Dv.int)
  | [] => .nil
  | i :: is => .cons (.int i) (RepL.ints is)
def minL : List Int → Option Int
  | [] => none
  | x :: xs => some (xs.foldl (fun a b => if b < a then b else a) x)
def maxL : List Int → Option Int
  | [] => none
  | x :: xs => some (xs.foldl (fun a b => if a < b then b else a) x)
theorem foldl_min : ∀ (xs : List Int) (x : Int), (xs.foldl (fun a b => if b < a then b else a) x ∈ x :: xs) ∧ ∀ y ∈ x :: xs, xs.foldl (fun a b => if b < a then b else a) x ≤ y
  | [], x => by simp
  | y :: ys, x => by
    obtain ⟨h1, h2⟩ := foldl_min ys (if y < x then y else x)
    simp only [List.foldl_cons]
    constructor
    · rcases List.mem_cons.mp h1 with h | h
      · rw [h]; split <;> simp
      · simp [h]
    · intro z hz
      have h3 := h2 (if y < x then y else x) List.mem_cons_self
      rcases List.mem_cons.mp hz with h | h
      · subst h; refine Int.le_trans h3 ?_; split <;> omega
      · rcases List.mem_cons.mp h with h | h
        · subst h; refine Int.le_trans h3 ?_; split <;> omega
        · exact h2 z (List.mem_cons_of_mem _ h)
theorem foldl_max : ∀ (xs : List Int) (x : Int), (xs.foldl (fun a b => if a < b then b else a) x ∈ x :: xs) ∧ ∀ y ∈ x :: xs, y ≤ xs.foldl (fun a b => if a < b then b else a) x
  | [], x => by simp
  | y :: ys, x => by
    obtain ⟨h1, h2⟩ := foldl_max ys (if x < y then y else x)
    simp only [List.foldl_cons]
    constructor
    · rcases List.mem_cons.mp h1 with h | h
      · rw [h]; split <;> simp
      · simp [h]
    · intro z hz
      have h3 := h2 (if x < y then y else x) List.mem_cons_self
      rcases List.mem_cons.mp hz with h | h
      · subst h; refine Int.le_trans ?_ h3; split <;> omega
      · rcases List.mem_cons.mp h with h | h
        · subst h; refine Int.le_trans ?_ h3; split <;> omega
        · exact h2 z (List.mem_cons_of_mem _ h)
theorem minL_some {is : List Int} {m : Int} (h : minL is = some m) : m ∈ is ∧ ∀ y ∈ is, m ≤ y := by
  cases is with
  | nil => cases h
  | cons x xs => cases h; exact foldl_min xs x
theorem maxL_some {is : List Int} {m : Int} (h : maxL is = some m) : m ∈ is ∧ ∀ y ∈ is, y ≤ m := by
  cases is with
  | nil => cases h
  | cons x xs => cases h; exact foldl_max xs x
def fMinL : List Dv → Option Dv
  | [.lst ds] => (toIs ds).bind fun is => (minL is).map .int
  | _ => none
theorem pure_minL {G : Gx} : PureC G (rMin G.K) fMinL := by
  intro W vs xs Q z ok hv hf k
  unfold fMinL at hf
  split at hf
  · obtain ⟨v, rfl, a, ys, rfl, h1, h2⟩ := hv.one
    obtain ⟨is, h3, h4⟩ := bind1 hf
    obtain ⟨m, h5, rfl⟩ := Option.map_eq_some_iff.mp h4
    obtain ⟨h6, h7⟩ := minL_some h5
    rw [toIs_rep h2 h3] at h1
    refine ⟨_, is, rfl, SqL.of h1, List.length_pos_of_mem h6, fun m' hm hle => ?_⟩
    obtain rfl : m' = m := Int.le_antisymm (hle m h6) (h7 m' hm)
    exact k _ _ (Same.refl _) (.int _)
  · cases hf
def fMaxL : List Dv → Option Dv
  | [.lst ds] => (toIs ds).bind fun is => (maxL is).map .int
  | _ => none
theorem pure_maxL {G : Gx} : PureC G (rMax G.K) fMaxL := by
  intro W vs xs Q z ok hv hf k
  unfold fMaxL at hf
  split at hf
  · obtain ⟨v, rfl, a, ys, rfl, h1, h2⟩ := hv.one
    obtain ⟨is, h3, h4⟩ := bind1 hf
    obtain ⟨m, h5, rfl⟩ := Option.map_eq_some_iff.mp h4
    obtain ⟨h6, h7⟩ := maxL_some h5
    rw [toIs_rep h2 h3] at h1
    refine ⟨_, is, rfl, SqL.of h1, List.length_pos_of_mem h6, fun m' hm hle => ?_⟩
    obtain rfl : m' = m := Int.le_antisymm (h7 m' hm) (hle m h6)
    exact k _ _ (Same.refl _) (.int _)
  · cases hf
def fAny : List Dv → Option Dv
  | [.lst ds] => (toBs ds).map fun bs => .bl (bs.any id)
  | _ => none
theorem pure_any {G : Gx} : PureC G (rAny G.K) fAny := by
  intro W vs xs Q z ok hv hf k
  unfold fAny at hf
  split at hf
  · obtain ⟨v, rfl, a, ys, rfl, h1, h2⟩ := hv.one
    obtain ⟨bs, h3, rfl⟩ := Option.map_eq_some_iff.mp hf
    rw [toBs_rep h2 h3] at h1
    exact ⟨_, bs, rfl, SqL.of h1, k _ _ (Same.refl _) (.bl _)⟩
  · cases hf
def fAll : List Dv → Option Dv
  | [.lst ds] => (toBs ds).map fun bs => .bl (bs.all id)
  | _ => none
theorem pure_all {G : Gx} : PureC G (rAll G.K) fAll := by
  intro W vs xs Q z ok hv hf k
  unfold fAll at hf
  split at hf
  · obtain ⟨v, rfl, a, ys, rfl, h1, h2⟩ := hv.one
    obtain ⟨bs, h3, rfl⟩ := Option.map_eq_some_iff.mp hf
    rw [toBs_rep h2 h3] at h1
    exact ⟨_, bs, rfl, SqL.of h1, k _ _ (Same.refl _) (.bl _)⟩
  · cases hf
/-! tuple(xs) -/
def fTuple : List Dv → Option Dv
  | [.lst ds] => some (.tup ds)
  | [.tup ds] => some (.tup ds)
  | [.scr ns] => some (.tup (ns.map .int))
  | _ => none
def rTupleOf (K : PySem.W.Frag) : List V → Hp → VK → Prop := fun xs H Q => ∃ p ys, xs = [.ref p] ∧ ((SqL K H p ys ∧ ∀ l, H l = none → Q (.ref l) (upd H l (.tup ys))) ∨ (SqT K H p ys ∧ Q (.ref p) H))
theorem pure_tuple {G : Gx} : PureC G (rTupleOf G.K) fTuple := by
  intro W vs xs Q z ok hv hf k
  unfold fTuple at hf
  split at hf
  · obtain ⟨v, rfl, a, ys, rfl, h1, h2⟩ := hv.one
    cases hf
    exact ⟨_, ys, rfl, .inl ⟨SqL.of h1, fun l hl => k _ _ (Same.upd hl) (new_tup hl h2)⟩⟩
  · obtain ⟨v, rfl, r⟩ := hv.one
    cases hf
    cases r with
    | tup h1 h2 => exact ⟨_, _, rfl, .inr ⟨h1, k _ _ (Same.refl _) (.tup h1 h2)⟩⟩
  · obtain ⟨v, rfl, r⟩ := hv.one
    cases hf
    cases r with
    | scr h1 => exact ⟨_, _, rfl, .inl ⟨h1.seq, fun l hl => k _ _ (Same.upd hl) (new_tup hl (RepL.ints _))⟩⟩
  · cases hf

/-! ### functions that make a list -/
def PureN (G : Gx) (r : List V → Hp → VK → Prop) (f : List Dv → Option (List Dv)) : Prop := ∀ (W : Wd) vs xs Q ds, WOk G W → ViewL G W vs xs → f xs = some ds → (∀ p ys, W.H p = none → RepL G W ys ds → Q (.ref p) (upd W.H p (.lst ys))) → r vs W.H Q
theorem PureN.pure {G : Gx} {r : List V → Hp → VK → Prop} {f : List Dv → Option (List Dv)} (h : PureN G r f) : PureC G r (fun xs => (f xs).map .lst) := fun W vs xs Q z ok hv hf k => by
  obtain ⟨ds, h1, rfl⟩ := Option.map_eq_some_iff.mp hf
  exact h W vs xs Q ds ok hv h1 fun p ys hp r => k _ _ (Same.upd hp) (new_lst ok hp r)
def dCN (f : List Dv → Option (List Dv)) (da : Ls → R (List Rd)) : Ls → R Nat := fun s => (da s).bind fun rs s => match (lookAll rs s).bind f with
  | some ds => dNew s ds
  | none => .stuck
theorem sim_CN {G : Gx} {wish : WX} {ta : TA} {da : Ls → R (List Rd)} {r : List V → Hp → VK → Prop} {f : List Dv → Option (List Dv)} (hp : PureN G r f) (ha : Sim G (rRs G) wish ta da) : Sim G (rN G) wish (tCB r ta) (dCN f da) := fun B W σ s Q e p =>
  ha B W σ s _ e (Post.bind (rep := rRs G) (rep2 := rN G) p fun rs s1 vs W1 _ e1 z1 r1 p1 => by
    cases hc : (lookAll rs s1).bind f with
    | none => rw [hc] at p1; exact p1.elim
    | some ds =>
      rw [hc] at p1
      obtain ⟨xs, h1, h2⟩ := bind1 hc
      exact hp W1 vs xs Q ds e1.wok (lookAll_view e1 r1 h1) h2 fun q ys hq rp => Post.push p1 e1 hq rp)
section
variable {X : Cx} {wish : WX} {x : Str} {id T : String} {e : Expr} {es : List Expr} {ta : TA} {da : Ls → R (List Rd)} {p pos : Pos} {r : List V → Hp → VK → Prop} {f : List Dv → Option (List Dv)}
theorem dn_callB (hc : CallR X (.builtin id) r) (hp : PureN (gx X) r f) (hg : Gl X x) (hm : X.mg x = none) (hv : bootBuiltins x = some (.builtin id)) (ha : DAr X wish (e :: es) ta da) (hn : x ≠ "__name__" := by decide) (hdb : (x == ("__debug__" : Str)) = false := by decide)
    (he : starEach (e :: es) X.env = (false, eval e X.env) :: starEach es X.env := by rfl) (hpl : (backTo pos (starEach es X.env)).any (·.1) = false := by rfl) : DN X wish (.Call (.Name x p) (e :: es) [] pos) (tCB r ta) (dCN f da) := ⟨pe_callB hc hg hm hv ha.pa hn hdb he hpl, sim_CN hp ha.sim⟩
theorem dn_callTy (hc : CallR X (.type T) r) (hp : PureN (gx X) r f) (hg : Gl X x) (hm : X.mg x = none) (hv : bootBuiltins x = some (.type T)) (ha : DAr X wish (e :: es) ta da) (hn : x ≠ "__name__" := by decide) (hdb : (x == ("__debug__" : Str)) = false := by decide)
    (he : starEach (e :: es) X.env = (false, eval e X.env) :: starEach es X.env := by rfl) (hpl : (backTo pos (starEach es X.env)).any (·.1) = false := by rfl) : DN X wish (.Call (.Name x p) (e :: es) [] pos) (tCB r ta) (dCN f da) := ⟨pe_callTy hc hg hm hv ha.pa hn hdb he hpl, sim_CN hp ha.sim⟩
end
/-! list(xs) -/
def fList : List Dv → Option (List Dv)
  | [.lst ds] => some ds
  | [.tup ds] => some ds
  | [.scr ns] => some (ns.map .int)
  | _ => none
def rListOf (K : PySem.W.Frag) : List V → Hp → VK → Prop := fun xs H Q => ∃ p ys, xs = [.ref p] ∧ (SqL K H p ys ∨ SqT K H p ys) ∧ ∀ l, H l = none → Q (.ref l) (upd H l (.lst ys))
theorem pureN_list {G : Gx} : PureN G (rListOf G.K) fList := by
  intro W vs xs Q ds ok hv hf k
  unfold fList at hf
  split at hf
  · obtain ⟨v, rfl, a, ys, rfl, h1, h2⟩ := hv.one
    cases hf
    exact ⟨_, ys, rfl, .inl (SqL.of h1), fun l hl => k _ _ hl h2⟩
  · obtain ⟨v, rfl, r⟩ := hv.one
    cases hf
    cases r with
    | tup h1 h2 => exact ⟨_, _, rfl, .inr h1, fun l hl => k _ _ hl h2⟩
  · obtain ⟨v, rfl, r⟩ := hv.one
    cases hf
    cases r with
    | scr h1 => exact ⟨_, _, rfl, .inl h1.seq, fun l hl => k _ _ hl (RepL.ints _)⟩
  · cases hf
/-! sorted(xs) of ints -/
def insI (x : Int) : List Int → List Int
  | [] => [x]
  | y :: ys => if x ≤ y then x :: y :: ys else y :: insI x ys
def sortI : List Int → List Int
  | [] => []
  | x :: xs => insI x (sortI xs)
theorem insI_perm (x : Int) : ∀ l : List Int, (insI x l).Perm (x :: l)
  | [] => .refl _
  | y :: ys => by
    unfold insI
    split
    · exact .refl _
    · exact ((insI_perm x ys).cons y).trans (.swap x y ys)
theorem sortI_perm : ∀ l : List Int, (sortI l).Perm l
  | [] => .refl _
  | x :: xs => (insI_perm x _).trans ((sortI_perm xs).cons x)
theorem insI_pw (x : Int) : ∀ l : List Int, l.Pairwise (· ≤ ·) → (insI x l).Pairwise (· ≤ ·)
  | [], _ => by simp [insI]
  | y :: ys, h => by
    obtain ⟨h1, h2⟩ := List.pairwise_cons.mp h
    unfold insI
    split
    · rename_i hle
      exact List.pairwise_cons.mpr ⟨fun z hz => (List.mem_cons.mp hz).elim (fun q => by omega) fun q => Int.le_trans hle (h1 z q), h⟩
    · exact List.pairwise_cons.mpr ⟨fun z hz => (List.mem_cons.mp ((insI_perm x ys).mem_iff.mp hz)).elim (fun q => by omega) fun q => h1 z q, insI_pw x ys h2⟩
theorem sortI_pw : ∀ l : List Int, (sortI l).Pairwise (· ≤ ·)
  | [] => .nil
  | x :: xs => insI_pw x _ (sortI_pw xs)
theorem sorted_uniq : ∀ {l m : List Int}, l.Pairwise (· ≤ ·) → m.Pairwise (· ≤ ·) → l.Perm m → l = m
  | [], m, _, _, h => by rw [List.nil_perm.mp h]
  | x :: l, [], _, _, h => by simp at h
  | x :: l, y :: m, h1, h2, h => by
    obtain ⟨a1, a2⟩ := List.pairwise_cons.mp h1
    obtain ⟨b1, b2⟩ := List.pairwise_cons.mp h2
    have hxy : x = y := by
      have p := h.mem_iff.mp (List.mem_cons_self (a := x))
      have q := h.mem_iff.mpr (List.mem_cons_self (a := y))
      rcases List.mem_cons.mp p with p | p
      · exact p
      · rcases List.mem_cons.mp q with q | q
        · exact q.symm
        · exact Int.le_antisymm (a1 y q) (b1 x p)
    subst hxy
    rw [sorted_uniq a2 b2 ((List.perm_cons x).mp h)]
def fSortI : List Dv → Option (List Dv)
  | [.lst ds] => (toIs ds).map fun is => (sortI is).map .int
  | [.scr ns] => some ((sortI ns).map .int)
  | _ => none
theorem pureN_sortI {G : Gx} : PureN G (rSortedI G.K) fSortI := by
  intro W vs xs Q ds ok hv hf k
  unfold fSortI at hf
  split at hf
  · obtain ⟨v, rfl, a, ys, rfl, h1, h2⟩ := hv.one
    obtain ⟨is, h3, rfl⟩ := Option.map_eq_some_iff.mp hf
    rw [toIs_rep h2 h3] at h1
    refine ⟨_, is, rfl, SqL.of h1, fun ns' p h4 h5 hp => ?_⟩
    rw [sorted_uniq h5 (sortI_pw is) (h4.trans (sortI_perm is).symm)]
    exact k _ _ hp (RepL.ints _)
  · rename_i ns
    obtain ⟨v, rfl, r⟩ := hv.one
    cases hf
    cases r with
    | scr h1 =>
      refine ⟨_, ns, rfl, h1.seq, fun ns' p h4 h5 hp => ?_⟩
      rw [sorted_uniq h5 (sortI_pw ns) (h4.trans (sortI_perm ns).symm)]
      exact k _ _ hp (RepL.ints _)
  · cases hf

/-! ### operators that make a list -/
def Pure2N (G : Gx) (r : R2) (f : Dv → Dv → Option (List Dv)) : Prop := ∀ (W : Wd) v w x y Q ds, WOk G W → View G W v x → View G W w y → f x y = some ds → (∀ p ys, W.H p = none → RepL G W ys ds → Q (.ref p) (upd W.H p (.lst ys))) → r v w W.H Q
def dOpN (f : Dv → Dv → Option (List Dv)) (da db : Ls → R Rd) : Ls → R Nat := fun s => (da s).bind fun x s => (db s).bind fun y s => match (x.look s).bind fun a => (y.look s).bind fun b => f a b with
  | some ds => dNew s ds
  | none => .stuck
theorem sim_opN {G : Gx} {wish : WX} {r : R2} {f : Dv → Dv → Option (List Dv)} {ta tb : TE} {da db : Ls → R Rd} (hp : Pure2N G r f) (ha : Sim G (rR G) wish ta da) (hb : Sim G (rR G) wish tb db) : Sim G (rN G) wish (tOp r ta tb) (dOpN f da db) := fun B W σ s Q e p =>
  ha B W σ s _ e (Post.bind (rep := rR G) (rep2 := rN G) p fun x s1 v W1 _ e1 z1 r1 p1 =>
    hb B W1 σ s1 _ e1 (Post.bind (rep := rR G) (rep2 := rN G) p1 fun y s2 w W2 _ e2 z2 r2 p2 => by
      cases hc : (x.look s2).bind fun a => (y.look s2).bind fun b => f a b with
      | none => simp only [hc] at p2; exact p2.elim
      | some ds =>
        simp only [hc] at p2
        obtain ⟨a, b, h1, h2, h3⟩ := bind2 hc
        exact hp W2 v w a b Q ds e2.wok (look_view e2 (r1.mono z2) h1) (look_view e2 r2 h2) h3 fun q ys hq rp => Post.push p2 e2 hq rp))
def fAddN : Dv → Dv → Option (List Dv)
  | .lst xs, .lst ys => if szOk (xs.length + ys.length) = true then some (xs ++ ys) else none
  | _, _ => none
theorem pureN_add {G : Gx} : Pure2N G (rAddA G.K) fAddN := by
  intro W v w x y Q ds ok hv hw hf k
  cases x <;> cases y <;> first | (simp [fAddN] at hf; done) | skip
  obtain ⟨a, xs, rfl, a1, a2⟩ := hv
  obtain ⟨b, ys, rfl, b1, b2⟩ := hw
  simp only [fAddN] at hf
  split at hf
  · rename_i h1
    cases hf
    exact .inr (.inr (.inl ⟨_, _, _, _, rfl, rfl, a1, b1, by rw [RepL.length a2, RepL.length b2]; exact szOk.le h1, fun p hp => k _ _ hp (RepL.append a2 b2)⟩))
  · cases hf
def fMulN : Dv → Dv → Option (List Dv)
  | .lst xs, .int k => if repOk xs.length k = true then some (List.replicate k.toNat xs).flatten else none
  | _, _ => none
theorem pureN_mul {G : Gx} : Pure2N G rMulA fMulN := by
  intro W v w x y Q ds ok hv hw hf k
  cases x <;> cases y <;> first | (simp [fMulN] at hf; done) | skip
  obtain ⟨a, xs, rfl, a1, a2⟩ := hv
  cases hw
  simp only [fMulN] at hf
  split at hf
  · rename_i h1
    cases hf
    obtain ⟨q1, q2, q3⟩ := of_decide_eq_true h1
    exact .inr (.inr ⟨_, _, _, rfl, rfl, a1, q1, q2, by rw [RepL.length a2, sizeLine_eq]; exact q3, fun p hp => k _ _ hp (RepL.flatten a2 _)⟩)
  · cases hf
theorem dn_op {X : Cx} {wish : WX} {ta tb : TE} {da db : Ls → R Rd} {a b : Expr} {pos : Pos} {r : R2} {f : Dv → Dv → Option (List Dv)} {op : Operator} (ho : OpR X (binaryOp op) r) (hp : Pure2N (gx X) r f) (ha : DR X wish a ta da) (hb : DR X wish b tb db) : DN X wish (.BinOp a op b pos) (tOp r ta tb) (dOpN f da db) := ⟨pe_op ho ha.pe hb.pe, sim_opN hp ha.sim hb.sim⟩
end DD

/-! S1: set(list of ints) as something that can be walked; sorted(set) of any size -/
namespace DD
open PySem PySem.Spec PyProof.Rows L2
section
variable {P : Program} {w : World} {A : Around} {E : Value → Shared → Prop} {s : Shared}
abbrev newSet (w : World) : Obj := { cls := .type "set", dict := none, data := .set #[] 0 (.fresh 0 0 (!w.params.followText "set-order")) }
set_option maxRecDepth 100000 in
set_option maxHeartbeats 3200000 in
theorem set_of_list {l : Addr} {its : Array Value} (ks : List Int) {Q : Value → Shared → Prop} (hcalm : A.handled = none) (isl : s.heap.IsList l its) (hints : IntsAre its.toList ks) (room : ks.length + 1 < scanBound)
    (k : ∀ (h' : Heap) (tk c : Nat), SetR w h' s.heap.objs.size (fun j => decide (j ∈ ks)) c → c ≤ ks.length → (∀ b o, s.heap.get? b = some o → h'.get? b = some o) → Q (.ref s.heap.objs.size) { s with heap := h', toks := tk }) :
    wpAny (model P w) A (call (.type "set") [.ref l]) Q E s := by
  have size_eq : its.size = ks.length := by
    rw [← Array.length_toList]
    exact IntsAre.length hints
  obtain ⟨c0, t0, m0⟩ := F.called_set.mro
  have made := F.called_set.made
  have suba := F.called_set.sub
  refine wpAny_call (codeAny_of_tree ?_)
  show wpAny _ _ (callAny (.type "set") _) _ _ _
  refine wpAny_pure ⟨Code.quiet_builtin _ (by decide +kernel), codeAny_builtin F.entry_type_call ?_⟩
  rw [Around.under_plain (weight_type_call_type "set" [.ref l] []) rfl]
  have n1 := F.called_set.notType
  have n2 := F.called_set.canCreate
  have n3 := F.typeCall_set_1 (.ref l)
  repeat (any_goals (first | assumption | wp_step))
  refine codeAny_mono (code_set_led1 (.ref l) (E := E) (Q₁ := fun ob sN => ob = .ref s.heap.objs.size ∧ sN = { s with heap := s.heap.push (newSet w) }) ⟨rfl, rfl⟩) fun r sN hr => ?_
  cases r with
  | error e => exact hr
  | ok fl =>
    cases fl with
    | next => exact hr.elim
    | brk => exact hr.elim
    | cont => exact hr.elim
    | ret ob =>
      obtain ⟨rfl, rfl⟩ := hr
      have gS : (s.heap.push (newSet w)).get? s.heap.objs.size = some (newSet w) := Heap.get?_push_size _ rfl
      have tS : Shared.TypeIs { s with heap := s.heap.push (newSet w) } (.ref s.heap.objs.size) "set" := ⟨_, gS, rfl⟩
      have i1 := F.called_set.init.lookup
      have i2 := F.called_set.init.bind (.ref s.heap.objs.size)
      repeat (any_goals (first | assumption | wp_step))
      refine codeAny_mono (codeAny_call_builtin (R := wants (fun r sM => r = .none ∧ ∃ h' tk c, sM = { s with heap := h', toks := tk } ∧ SetR w h' s.heap.objs.size (fun j => decide (j ∈ ks)) c ∧ c ≤ ks.length ∧
          (∀ b o, s.heap.get? b = some o → h'.get? b = some o)) E) F.called_set.init.plain F.entry_set_init (check_set_init_1 tS ?_)) fun rM sM hrM => ?_
      · obtain ⟨ol, g1, g2, nl, g3⟩ := isl
        obtain ⟨oc, od, oda, osl⟩ := ol
        simp only at g2 g3
        subst g2; subst g3
        have g1' : (s.heap.push (newSet w)).get? l = some { cls := .type "list", dict := od, data := .seq its nl, slots := osl } := Heap.get?_push_of_some _ g1
        have x1 := F.sub_list_set
        have x2 := F.sub_list_frozenset
        have x3 : (Value.type "list" == Value.type "dict") = false := by decide
        have isl1 : (s.heap.push (newSet w)).IsList l its := ⟨_, g1', rfl, nl, rfl⟩
        unfold Builtin.«set.__init__» noKeywords Builtin.Frozenset.updateFrom
        generalize hP : pyIter = PI
        wp_walk
        subst hP
        refine wpAny_pyIter_list isl1 (wpAny_bind (wpAny_runValue ?_))
        have llt : l < s.heap.objs.size := Heap.lt_size g1
        have calm3 : A.in1.in1.in1.handled = none := by simp [hcalm]
        have lI : l ≠ (s.heap.push (newSet w)).objs.size := by
          rw [Heap.size_push]
          exact Nat.ne_of_lt (Nat.lt_succ_of_lt llt)
        have notfp : s.heap.objs.size ∉ [(s.heap.push (newSet w)).objs.size, l] := by
          rw [Heap.size_push]
          simp only [List.mem_cons, List.not_mem_nil, or_false, not_or]
          refine ⟨?_, ?_⟩
          · exact Nat.ne_of_lt (Nat.lt_succ_self _)
          · exact Nat.ne_of_gt llt
        have each : ∀ (i : Nat) (v : Value), its[i]? = some v → ∃ n t, ks[i]? = some n ∧ v = .int n t := fun i v hv => by
          have hi : i < ks.length := by rw [← size_eq]; exact (Array.getElem?_eq_some_iff.mp hv).1
          obtain ⟨t, e⟩ := IntsAre.int_at hints i v (by rw [Array.getElem?_toList]; exact hv)
          refine ⟨ks[i], t, by simp [hi], ?_⟩
          rw [e]
          simp [hi]
        refine set_update_ints ((Walks.list calm3 _ l lI its).toS) s.heap.objs.size notfp ks size_eq room each (its.size - 0) 0 _ (by omega) (Nat.zero_le _) ⟨⟨_, Heap.get?_push_size _ rfl, rfl, rfl⟩, isl1.push _⟩ ?start ?fin
        case start => exact ⟨0, Nat.le_refl 0, setR_new_at (Heap.get?_push_of_some _ gS)⟩
        case fin =>
          intro s' c mv cle sR
          obtain ⟨h', g', d', t', o'⟩ := s'
          obtain rfl : g' = s.gens := mv.gens
          obtain rfl : d' = s.drawn := mv.drawn
          obtain rfl : o' = s.os := mv.os
          show wpAny _ _ _ _ _ _
          refine wpAny_pure ?_
          show wpAny _ _ (ret Value.none) _ _ _
          refine wpAny_pure ⟨rfl, h', t', c, rfl, sR, by rw [← size_eq]; exact cle, fun b o e => ?_⟩
          have blt : b < s.heap.objs.size := Heap.lt_size e
          refine mv.heap b o ?_ (Heap.get?_push_of_some _ (Heap.get?_push_of_some _ e))
          simp only [List.mem_cons, List.not_mem_nil, or_false, not_or]
          refine ⟨Nat.ne_of_lt blt, ?_⟩
          rw [Heap.size_push]
          exact Nat.ne_of_lt (Nat.lt_succ_of_lt blt)
      · cases rM with
        | error e => exact hrM
        | ok fM =>
          cases fM with
          | next => exact hrM.elim
          | brk => exact hrM.elim
          | cont => exact hrM.elim
          | ret v =>
            obtain ⟨rfl, h', t', c, rfl, sR, cle, up⟩ := hrM
            repeat (any_goals (first | assumption | wp_step))
            exact k h' t' c sR cle up
/-- sorted(set), any size -/
theorem sorted_any_set {a : Addr} {S : Int → Bool} {n : Nat} {Q : Value → Shared → Prop} (sR : SetR w s.heap a S n) (calm : A.handled = none)
    (k : ∀ s' p (out : Array Value) (c : Nat) (ks : List Int), (∀ b o, s.heap.get? b = some o → s'.heap.get? b = some o) → s'.gens = s.gens → s'.os = s.os → s.heap.objs.size ≤ p →
      s'.heap.get? p = some (seqObj "list" out c) → IntsAre out.toList ks → ks.Pairwise (· < ·) → (∀ i, i ∈ ks ↔ S i = true) → ks.length = n → Q (.ref p) s') :
    wpAny (model P w) A (call (.builtin "sorted") [.ref a]) Q E s := by
  obtain ⟨o, es, ep, t, ho, ex, hd, g, nd, hm, hb, hf, hn, hr, hl⟩ := sR
  refine Calls.call_function_entry kind_sorted plain_sorted entry_sorted (args_sorted1 _) ?_
  unfold Builtin.«sorted»
  refine wpAny_bind (m := checkCount "sorted" 1 1 _) (wpAny_pure ?_)
  refine wpAny_bind (collect_set (A := A.in1) calm ⟨o, ho, ex.1, hd⟩ hf hb hr hl fun s1 vs up sz g1 o1 pm => ?_)
  have vn : vs.length = n := by rw [pm.length_eq, List.length_map, Array.length_toList]; exact hn
  have vz : vs.length ≤ sizeLine := by rw [vn, ← hn, sizeLine_eq]; unfold scanBound at hb; omega
  have isI : IntsAre vs (vs.map Builtin.Re.reRawOf) := ints_of vs fun v hv => by
    obtain ⟨e, he, q⟩ := List.mem_map.mp (pm.mem_iff.mp hv)
    obtain ⟨i, tk, h1, _⟩ := g e he
    exact ⟨i, tk, q ▸ h1⟩
  have pk : (vs.map Builtin.Re.reRawOf).Perm (es.toList.map keyOf) := by
    have q := pm.map Builtin.Re.reRawOf
    rwa [List.map_map] at q
  refine wpAny_bind (wpAny_newList ?_ vz)
  have oL : (s1.heap.push (seqObj "list" vs.toArray 0)).get? s1.heap.objs.size = some (seqObj "list" vs.toArray 0) := Heap.get?_push_size _ rfl
  refine wpAny_bind (wpAny_holding (wpAny_call_entry slot_list_sort ⟨_, oL, rfl⟩ entry_list_sort (SrtO.list_sort_ord SrtO.swo_int oL vz (fun h2 => SrtO.ints_sortable isI h2) fun out q1 q2 => ⟨_, rfl, ?_⟩) (args_list_sort _)))
  obtain ⟨c1, c2, c3⟩ := SrtO.ints_out isI q1 q2
  obtain ⟨c, hc⟩ := sortedHeap_at (vs := vs) (out := out.toArray) oL
  have pn := c2.trans pk
  refine wpAny_pure ⟨_, rfl, k _ s1.heap.objs.size out.toArray c _ (fun b u e => ?_) g1 o1 sz hc (by simpa using c1) (lt_of_le_nodup _ c3 (pn.nodup_iff.mpr nd)) (fun i => by rw [pn.mem_iff, ← hm i]) ?_⟩
  · have q := up b u e
    have lt := Heap.lt_size q
    show (sortedHeap (s1.heap.push (seqObj "list" vs.toArray 0)) s1.heap.objs.size vs out.toArray).get? b = some u
    rw [sortedHeap_old (Nat.ne_of_lt lt) (by rw [size_push']; exact Nat.lt_succ_of_lt lt)]
    exact Heap.get?_push_of_some _ q
  · rw [pn.length_eq, List.length_map, Array.length_toList]; exact hn
end

/-! ### sorted(set(xs)), a list of ints -/
def tSortSet (K : PySem.W.Frag) (ta : TE) : TE := fun σ H Q => ta σ H fun x H1 => ∃ (l : Addr) (ks : List Int), x = V.ref l ∧ SqL K H1 l (ks.map V.int) ∧ ks.length + 1 < 4096 ∧
  ∀ (ns : List Int) (p : Addr), ns.Pairwise (· < ·) → (∀ i, i ∈ ns ↔ i ∈ ks) → H1 p = none → Q (.ref p) (upd H1 p (.lst (ns.map V.int)))
theorem pe_sortSet {X : Cx} {a : Expr} {ta : TE} {p p2 q pos : Pos} (hc : X.calm = true) (hg : Gl X "sorted") (hm : X.mg "sorted" = none) (hg2 : Gl X "set") (hm2 : X.mg "set" = none) (hb : bootBuiltins "sorted" = some (.builtin "sorted")) (ha : PE X a ta)
    (na : starEach [a] X.env = (false, eval a X.env) :: starEach [] X.env := by rfl) : PE X (.Call (.Name "sorted" p) [.Call (.Name "set" p2) [a] [] q] [] pos) (tSortSet X.K ta) := by
  refine ⟨fun pins s σ H Q I h => ?_⟩
  refine Call_ (ld_blt I hg hm hb ?_)
  refine PyProof.Rows.callWith_builtin1 (PyProof.Rows.args_cons ?_ rfl) rfl rfl
  refine Call_ (ld_blt I hg2 hm2 PyProof.Rows.boot_set ?_)
  refine PyProof.Rows.callWith_type1 (PyProof.Rows.args_cons (thn (ha.run pins s σ H _ I h) fun v s1 ⟨x, H1, I1, r1, l, ks, ex, hs, hz, q1⟩ => PyProof.Rows.args_nil ?_) na) na rfl
  subst ex
  cases r1
  obtain ⟨its, r, pl, _⟩ := I1.list hs
  refine set_of_list ks (I1.ok.hd hc) pl.isList (by simpa using r.ints) (by unfold scanBound; exact hz) fun h' tk c sR cle up => ?_
  refine PyProof.Rows.args_nil ?_
  have I2 : Inv X pins σ H1 { s1 with heap := h', toks := tk } := I1.kept fun b o e => up b o e
  refine sorted_any_set sR (I2.ok.hd hc) fun s' p out c ns kk g o hp hg hi pw mem hl => ?_
  have small : (ns.map V.int).length ≤ sizeLine := by
    rw [List.length_map, hl, sizeLine_eq]; omega
  generalize hB : ({ s1 with heap := h', toks := tk } : Shared) = sB at I2 kk g o hp
  have fr : H1 p = none := I2.hok.fresh hp
  have J : Inv X pins σ (upd H1 p (.lst (ns.map V.int))) { sB with heap := s'.heap, gens := s'.gens, drawn := s'.drawn, toks := s'.toks } :=
    I2.call (ch := []) (Un.laid kk hp fr) (I2.hok.laid kk hp ⟨small, out.toList, c, vals_of_ints hi, hg⟩) (by rw [g]; exact I2.bare) (fun _ z => nomatch z)
  have es : s' = { sB with heap := s'.heap, gens := s'.gens, drawn := s'.drawn, toks := s'.toks } := by
    cases s'
    cases sB
    cases o
    rfl
  rw [es]
  exact ⟨.ref p, _, J, rfl, q1 ns p pw (fun i => (mem i).trans decide_eq_true_iff) fr⟩
end DD

/-! S2: sorted(xs, key=lambda x: x[0]), the items tuples that begin with an int -/
namespace DD
open PySem PySem.Spec PyProof.Rows L2 LamX
section
variable {prog : Program} {w : World} {A : Around} {E : Value → Shared → Prop} {s : Shared}
/-- the key's body: a[0] of a tuple -/
theorem first_item {env : Env} {a : Str} {tp : Addr} {m : Str → Option Value} {its : Array Value} {v0 : Value} {Q : Value → Shared → Prop} {p1 p2 p3 : Pos} {j : Nat} (hk : env.scope.kind = .function) (hl : env.kindOf a = some .local) (hn : s.heap.Ns env.locals m) (hm : m a = some (.ref tp)) (ht : IsTup s.heap tp its) (h0 : its[0]? = some v0) (hd : (a == ("__debug__" : Str)) = false) (h : ∀ tk, Q v0 { s with toks := tk }) :
    wpAny (model prog w) A (eval (.Subscript (.Name a p1) (.Constant (.int 0) j p2) p3) env) Q E s := by
  refine PyProof.Rows.Subscript_ (wpAny_Name (wpAny_loadName_local hk hl hn hm ?_) hd)
  refine wpAny_Constant_int ?_
  have ht' : IsTup ({ s with toks := s.toks + 1 } : Shared).heap tp its := ht
  have pos : 0 < its.size := (Array.getElem?_eq_some_iff.mp h0).1
  exact subscriptTail_builtinR (x := v0) ht'.typeIs slot_tuple_getitem.lookup (getItem_tuple (j := 0) (Q := fun r s' => r = v0 ∧ Q r s') ht' (by decide) (by decide) (by unfold seqIndex?; simp [pos]) h0 ⟨rfl, h _⟩)
end
section
variable {prog : Program} {w : World} {A : Around} {E : Value → Shared → Prop} {s : Shared}
/-- the items of a tuple, taken one by one -/
theorem items_tup {l : Addr} {vs : List Value} {Q : List Value → Shared → Prop} (ht : IsTup s.heap l vs.toArray) (hz : vs.length ≤ sizeLine)
    (k : ∀ h', (∀ b o, s.heap.get? b = some o → h'.get? b = some o) → s.heap.objs.size ≤ h'.objs.size → Q vs { s with heap := h' }) : wpAny (model prog w) A (collect (.ref l)) Q E s := by
  obtain ⟨o, g1, g2, n, g3⟩ := ht
  unfold collect
  refine wpAny_bind (wpAny_runValue (codeAny_builtin entry_proto_collect' ?_))
  show wpAny _ _ (newList [] >>= fun z => again (.builtin "list.__iadd__" ⟨[z, .ref l], []⟩)) _ _ s
  refine wpAny_bind (wpAny_newList ?_)
  refine wpAny_pure ⟨Code.quiet_builtin _ (by decide +kernel), codeAny_builtin entry_list_iadd' ?_⟩
  have zl : s.heap.objs.size ≠ l := Nat.ne_of_gt (Heap.lt_size g1)
  have old : (s.heap.push (seqObj "list" #[] 0)).get? l = some o := Heap.get?_push_of_some _ g1
  have new : (s.heap.push (seqObj "list" #[] 0)).get? s.heap.objs.size = some (seqObj "list" #[] 0) := Heap.get?_push_size _ rfl
  show wpAny _ _ (Builtin.List.listExtendWith (.ref s.heap.objs.size) (.ref l) (.ref s.heap.objs.size)) _ _ { s with heap := s.heap.push (seqObj "list" #[] 0) }
  unfold Builtin.List.listExtendWith
  refine wpAny_bind (wpAny_typeOf (T := "tuple") ⟨o, old, g2⟩ ?_)
  have t2 : (Value.type "tuple" == Value.type "tuple") = true := by rfl
  rw [if_pos (by rw [t2]; simp)]
  refine wpAny_bind (listItems_at old g3 ?_)
  refine wpAny_bind (listItems_at new rfl ?_)
  rw [if_neg (by simp)]
  refine wpAny_bind (listUpdate_at new rfl ?_ (Nat.zero_le _) (by simp only [Array.size_append, List.size_toArray, List.length_nil]; omega))
  obtain ⟨c, hc⟩ : ∃ c, ((s.heap.push (seqObj "list" #[] 0)).update s.heap.objs.size (Obj.mapSeq (· ++ vs.toArray))).get? s.heap.objs.size = some (seqObj "list" (#[] ++ vs.toArray) c) := ⟨_, get?_update_seq new (· ++ vs.toArray)⟩
  refine wpAny_pure (wpAny_bind (wpAny_load hc ?_))
  have ev : ((#[] : Array Value) ++ vs.toArray).toList = vs := by simp
  refine wpAny_pure ?_
  rw [ev]
  refine k _ (fun b u e => ?_) (by rw [Heap.size_update, size_push']; exact Nat.le_succ _)
  have sb := Heap.SameBut.update (s.heap.push (seqObj "list" #[] 0)) s.heap.objs.size (Obj.mapSeq (· ++ vs.toArray))
  exact (sb.2 b (Nat.ne_of_lt (Heap.lt_size e))).trans (Heap.get?_push_of_some _ e)
/-- sorted(xs, key=f), xs a list or a tuple -/
theorem sorted_key_seq {β : Type} {vs : List Value} {bs : List β} {R : Value → β → Prop} {l : Addr} {f : Value} {kw : List (Str × Value)} {b : Bool} {Q : Value → Shared → Prop} (k : β → PyData) (hl : s.heap.IsList l vs.toArray ∨ IsTup s.heap l vs.toArray) (e : PySem.W.EachIs R vs bs) (hal : PySem.W.AllAlike (bs.map k)) (hk : PySem.W.Sortable (bs.map k)) (hL : bs.length ≤ sizeLine)
    (hu : ∀ x, x ∈ bs → A.units + 2 + (k x).depth < cLine) (ha1 : argsOk "sorted" ⟨[.ref l], kw⟩) (ha2 : ∀ x, argsOk "list.sort" ⟨[.ref x], kw⟩) (ht : ∀ x, Builtin.«list.sort» ⟨[.ref x], kw⟩ = ksk_tree x f b)
    (turn : ∀ (v : Value) (x : β), R v x → x ∈ bs → ∀ (h : Heap) (tk : Nat), (∀ b o, s.heap.get? b = some o → h.get? b = some o) →
      wpAny (model prog w) A.in1.in1 (call f [v]) (PySem.W.KeyPure (k x) { s with heap := h, toks := tk }) (fun _ _ => False) { s with heap := h, toks := tk })
    (h : ∀ out c h' tk p, (∀ b o, s.heap.get? b = some o → h'.get? b = some o) → s.heap.objs.size ≤ p → h'.get? p = some (seqObj "list" (List.toArray out) c) → out.length = bs.length → PySem.W.EachIs R out (bs.mergeSort (PySem.W.dataLe b k)) →
      Q (.ref p) { s with heap := h', toks := tk }) :
    wpAny (model prog w) A (call (.builtin "sorted") [.ref l] kw) Q E s := by
  rcases hl with hl | hl
  · exact PySem.W.sorted_key_data k hl e hal hk hL hu ha1 ha2 ht turn fun out c h' tk up _ hout hlen hE => h out c h' tk _ up (Nat.le_succ _) hout hlen hE
  · refine call_function_entry_kw kind_sorted plain_sorted entry_sorted ha1 ?_
    unfold Builtin.«sorted»
    have hz : vs.length ≤ sizeLine := by rw [e.length]; exact hL
    refine wpAny_bind (m := checkCount "sorted" 1 1 _) (wpAny_pure ?_)
    refine wpAny_bind (items_tup hl hz fun h1 up1 sz1 => ?_)
    refine wpAny_bind (wpAny_newList ?_ hz)
    have oL : (h1.push (seqObj "list" vs.toArray 0)).get? h1.objs.size = some (seqObj "list" vs.toArray 0) := Heap.get?_push_size _ rfl
    have old : ∀ {g : Heap}, PySem.W.KeepsBut h1.objs.size (h1.push (seqObj "list" vs.toArray 0)) g → ∀ b o, s.heap.get? b = some o → g.get? b = some o := fun {g} kp b o q =>
      kp b o (Nat.ne_of_lt (Nat.lt_of_lt_of_le (Heap.lt_size q) sz1)) (Heap.get?_push_of_some _ (up1 b o q))
    refine wpAny_bind (wpAny_holding (PySem.W.list_sort_key_data (s := { s with heap := h1.push (seqObj "list" vs.toArray 0) }) k oL e hal hk hL (fun x hx => hu x hx) (ha2 _) (ht _) (fun v x hR hx h tk kp => turn v x hR hx h tk (old kp)) fun out c h' tk kp hD hlen hE => ?_))
    exact wpAny_pure ⟨_, rfl, h out c h' tk _ (old kp) sz1 hD hlen hE⟩
end
/-- what the key function's making knows of itself -/
structure KeyLam (X : Cx) (a : Str) (params : Arguments) (scope : Scope) : Prop where
  kind : scope.kind = .function
  co : scope.isCoroutine = false
  gen : scope.isGenerator = false
  names : scope.names = [(a, .local)]
  dflt : defaultsOf params X.env = ([], [])
  bind : ∀ (body : Expr) (q : Str) (cl : List (Str × Addr)) (pm c' ctv v : Value), bindArgs (PySem.W.kla_fn "<lambda>" q params body scope cl pm c' ctv) ⟨[v], []⟩ = pure [(a, v)]
def keyLe (x y : V × Int) : Bool := decide (x.2 ≤ y.2)
/-- only the table at P has grown, by new code objects -/
structure TabStep (H H1 : Hp) (P : Addr) : Prop where
  keep : ∀ b o, b ≠ P → H b = some o → H1 b = some o
  dom : ∀ b o, H b = some o → ∃ o', H1 b = some o'
theorem TabStep.refl {H : Hp} {P : Addr} : TabStep H H P := ⟨fun _ _ _ h => h, fun _ o h => ⟨o, h⟩⟩
/-- a lambda is made -/
theorem lam_mk {X : Cx} {pins : List (Addr × Obj)} {σ : L2.St} {H : Hp} {s : Shared} {c P : Addr} {ars : Arguments} {bd : Expr} {scope : Scope} {pos : Pos} {E : Value → Shared → Prop} {Q : Value → Shared → Prop} (I : Inv X pins σ H s) (B : TabB X.base X.mg c P) (code : X.env.code = .ref c)
    (tab : TabS H P (X.env.qual ++ "<lambda>")) (dflt : defaultsOf ars X.env = ([], [])) (free : ∀ y ∈ scope.names, y.2 = .free → ∃ c, X.env.cells.lookup y.1 = some c)
    (k : ∀ (f c' : Addr) (pm ctv : Value) (H1 : Hp) (s' : Shared), Inv X pins σ H1 s' → TabStep H H1 P → TabS H1 P (X.env.qual ++ "<lambda>") →
      s'.heap.get? f = some (PySem.W.kla_obj "<lambda>" (X.env.qual ++ "<lambda>") ars bd scope (cloFrom X.env.cells scope.names []) pm c' ctv) → H1 f = none → f ∉ frs X.stack → H1 c' = some (CodeO c' (X.env.qual ++ "<lambda>")) → Q (.ref f) s') :
    wpAny (model X.prog X.w) X.A (eval (.Lambda ars bd scope pos) X.env) Q E s := by
  obtain ⟨ps, atP, tri, among⟩ := tab
  refine PySem.W.kla_eval dflt ?_
  have bmP : s.heap.BuiltinsAt X.mg P := B.bm.keeps I.bk
  have obP : s.heap.get? P = some { cls := .none, data := .fields ps } := I.hok P _ atP
  have fresh : ∀ f, s.heap.objs.size ≤ f → f ∉ frs X.stack := fun f hf z => by
    rcases List.mem_cons.mp (I.stkSub _ z) with e | e
    · exact absurd (e ▸ I.lt) (Nat.not_lt.mpr hf)
    · exact I.nofs hf e
  cases hc : codeAmong pos ps.toList with
  | some cv =>
    obtain ⟨c', rfl, isC⟩ := among pos cv hc
    refine PySem.W.kla_makeFunctionHit (mg := X.mg) (c := c) (P := P) (ps := ps) (closure_ok free) I.ok.glob (I.mod.glob.keeps I.bk) code (B.code.keeps I.bk) obP tri hc bmP fun ctv h' tk up sz => ?_
    have J : Inv X pins σ H { s with heap := h'.push (PySem.W.kla_obj "<lambda>" (X.env.qual ++ "<lambda>") ars bd scope (cloFrom X.env.cells scope.names []) ((X.mg "__name__").getD .none) c' ctv), toks := tk } :=
      I.kept fun b o e => Heap.get?_push_of_some _ (up b o e)
    exact k h'.objs.size c' ((X.mg "__name__").getD .none) ctv H _ J .refl ⟨ps, atP, tri, among⟩ (Heap.get?_push_size _ rfl) (I.hok.fresh sz) (fresh _ sz) isC
  | none =>
    refine PySem.W.kla_makeFunction (mg := X.mg) (c := c) (P := P) (ps := ps) (closure_ok free) I.ok.glob (I.mod.glob.keeps I.bk) code (B.code.keeps I.bk) obP tri hc B.gP bmP fun c' ctv h' tk up ge lt rec tb => ?_
    obtain ⟨c2, oc, us, t, e2, g1, g2, g3⟩ := rec
    cases e2
    have sz : s.heap.objs.size ≤ h'.objs.size := Nat.le_trans ge (Nat.le_of_lt lt)
    have freeC : H c' = none := I.hok.fresh ge
    have neC : P ≠ c' := ne_of_none atP freeC
    have J := inv_table (t' := tk) (more := #[rawInt pos.line, rawInt pos.col, .ref c']) (h' := h'.push (PySem.W.kla_obj "<lambda>" (X.env.qual ++ "<lambda>") ars bd scope (cloFrom X.env.cells scope.names []) ((X.mg "__name__").getD .none) c' ctv)) I atP
      (fun b o hb e => Heap.get?_push_of_some _ (up b o hb e)) (Heap.get?_push_of_some _ tb) ge ⟨oc, us, t, Heap.get?_push_of_some _ g1, g2, g3⟩
    have asList : (ps ++ #[rawInt pos.line, rawInt pos.col, .ref c']).toList = ps.toList ++ [rawInt pos.line, rawInt pos.col, .ref c'] := by simp
    have old : ∀ b o, b ≠ P → H b = some o → upd (upd H P (.tbl (ps ++ #[rawInt pos.line, rawInt pos.col, .ref c']))) c' (CodeO c' (X.env.qual ++ "<lambda>")) b = some o := fun b o hb e => by
      rw [upd_ne (ne_of_none e freeC), upd_ne hb]; exact e
    have now : upd (upd H P (.tbl (ps ++ #[rawInt pos.line, rawInt pos.col, .ref c']))) c' (CodeO c' (X.env.qual ++ "<lambda>")) P = some (.tbl (ps ++ #[rawInt pos.line, rawInt pos.col, .ref c'])) := by
      rw [upd_ne neC, upd_same]
    refine k h'.objs.size c' ((X.mg "__name__").getD .none) ctv _ _ J ⟨old, fun b o e => ?_⟩ ⟨_, now, by rw [asList]; exact PySem.TriplesOk_snoc _ _ _ _ tri, fun p' cv hcv => ?_⟩ (Heap.get?_push_size _ rfl) ?_ (fresh _ sz) upd_same
    · by_cases hb : b = P
      · rw [hb]; exact ⟨_, now⟩
      · exact ⟨o, old b o hb e⟩
    · rw [asList] at hcv
      rcases among_app _ tri hcv with z | z
      · obtain ⟨c0, e1, e2⟩ := among p' cv z
        exact ⟨c0, e1, old _ _ (fun q => by rw [q, atP] at e2; exact codeO_ne ps (Option.some.inj e2).symm) e2⟩
      · exact ⟨c', z, upd_same⟩
    · rw [upd_ne (Nat.ne_of_gt lt), upd_ne (Nat.ne_of_gt (Nat.lt_of_lt_of_le (Heap.lt_size obP) sz))]
      exact I.hok.fresh sz
def tSortK0 (base : Heap) (K : PySem.W.Frag) (mg : Str → Option Value) (c : Addr) (q : Str) (t : TA) : TE := fun σ H Q => t σ H fun vs H1 => ∃ (l : Addr) (bs : List (V × Int)) (P : Addr), vs = [V.ref l] ∧ (SqL K H1 l (bs.map (·.1)) ∨ SqT K H1 l (bs.map (·.1))) ∧ (∀ b ∈ bs, ∃ tp ys, b.1 = V.ref tp ∧ SqT K H1 tp (V.int b.2 :: ys)) ∧
  TabB base mg c P ∧ TabS H1 P q ∧ ∀ (H2 : Hp) (p : Addr), TabStep H1 H2 P → TabS H2 P q → H2 p = none → Q (.ref p) (upd H2 p (.lst ((bs.mergeSort keyLe).map (·.1))))
theorem each_vals : ∀ {bs : List (V × Int)} {us : List Value}, Vals (bs.map (·.1)) us → PySem.W.EachIs (fun v (b : V × Int) => RelV b.1 v) us bs
  | [], _, .nil => .nil
  | b :: bs, _, .cons r t => .cons r (each_vals t)
theorem vals_each : ∀ {bs : List (V × Int)} {us : List Value}, PySem.W.EachIs (fun v (b : V × Int) => RelV b.1 v) us bs → Vals (bs.map (·.1)) us
  | [], _, .nil => .nil
  | b :: bs, _, .cons r t => .cons r (vals_each t)
theorem TabStep.seqT {K : PySem.W.Frag} {H H1 : Hp} {P tp : Addr} {q : Str} {ys : List V} (e : TabStep H H1 P) (hP : TabS H P q) (h : SqT K H tp ys) : SqT K H1 tp ys := by
  obtain ⟨ps, hp, _⟩ := hP
  rcases h with (h | ⟨o, h⟩) | h
  · exact .inl (.inl (e.keep _ _ (fun z => by rw [z, hp] at h; cases h) h))
  · exact .inl (.inr ⟨o, e.keep _ _ (fun z => by rw [z, hp] at h; cases h) h⟩)
  · exact .inr h
theorem TabStep.seqL {K : PySem.W.Frag} {H H1 : Hp} {P tp : Addr} {q : Str} {ys : List V} (e : TabStep H H1 P) (hP : TabS H P q) (h : SqL K H tp ys) : SqL K H1 tp ys := by
  obtain ⟨ps, hp, _⟩ := hP
  rcases h with (h | ⟨o, h⟩) | h
  · exact .inl (.inl (e.keep _ _ (fun z => by rw [z, hp] at h; cases h) h))
  · exact .inl (.inr ⟨o, e.keep _ _ (fun z => by rw [z, hp] at h; cases h) h⟩)
  · exact .inr h
theorem keyLe_data : PySem.W.dataLe false (fun b : V × Int => PyData.int b.2) = keyLe := PySem.W.dataLe_int _
theorem pe_sortK0 {X : Cx} {k : Nat} {a : Str} {params : Arguments} {scope : Scope} {c : Addr} {e : Expr} {t : TA} {p pos lpos kpos p1 p2 p3 : Pos} {j : Nat} (hr : Room k X.A) (hcode : X.env.code = .ref c) (L : KeyLam X a params scope) (hd : (a == ("__debug__" : Str)) = false)
    (hg : Gl X "sorted") (hm : X.mg "sorted" = none) (hv : bootBuiltins "sorted" = some (.builtin "sorted")) (ha : PA X [e] t)
    (he : backTo pos (starEach [e] X.env) = (false, eval e X.env) :: backTo pos (starEach [] X.env) := by rfl) (hpl : (backTo pos (starEach [e] X.env)).any (·.1) = false := by rfl) :
    PE X (.Call (.Name "sorted" p) [e] [⟨some (Str.ofString "key"), .Lambda params (.Subscript (.Name a p1) (.Constant (.int 0) j p2) p3) scope lpos, kpos⟩] pos) (tSortK0 X.base X.K X.mg c (X.env.qual ++ "<lambda>") t) := by
  refine ⟨fun pins s σ H Q I h => ?_⟩
  refine wpAny_Call_Name_kw (ld_blt I hg hm hv ?_ (by decide) (by decide))
  refine PyProof.Rows.callWith_kw (thn (ha.run pos pins s σ H _ I h) fun us s1 ⟨vs, H1, I1, r1, l, bs, P, evs, hq, hk, TB, tabs, q1⟩ => ?_) he hpl rfl rfl
  subst evs
  obtain rfl := Vals.ref1 r1
  show wpAny _ _ (evalAll ((do let v ← eval (.Lambda params (.Subscript (.Name a p1) (.Constant (.int 0) j p2) p3) scope lpos) X.env; standAt pos; pure v) :: [])) _ _ s1
  refine wpAny_evalAll_cons (wpAny_bind (lam_mk I1 TB hcode tabs L.dflt (fun y hy e2 => ?_) fun f c' pm ctv H2 s2 I2 ext tabs2 hf hfn hfr hco => wpAny_bind (wpAny_standAt (wpAny_pure ?_))))
  · rw [L.names] at hy
    obtain rfl := List.mem_singleton.mp hy
    cases e2
  refine wpAny_evalAll_nil ?_
  show wpAny _ X.A (call (.builtin "sorted") [.ref l] [(Str.ofString "key", .ref f)]) _ _ s2
  obtain ⟨its, rv, pl, hz⟩ : ∃ its, Vals (bs.map (·.1)) its ∧ (s2.heap.IsList l its.toArray ∨ IsTup s2.heap l its.toArray) ∧ (bs.map (·.1)).length ≤ sizeLine := by
    rcases hq with hq | hq
    · obtain ⟨its, rv, pl, hz⟩ := I2.list (ext.seqL tabs hq)
      exact ⟨its, rv, .inl pl.isList, hz⟩
    · obtain ⟨its, rv, pl, hz⟩ := I2.tuple (ext.seqT tabs hq)
      exact ⟨its, rv, .inr pl, hz⟩
  have hlen : bs.length ≤ sizeLine := by rw [List.length_map] at hz; exact hz
  obtain ⟨⟨oc, cvs, tq, hoc, hdc, hvc⟩, _, _⟩ := I2.hok c' _ hco
  have un := hr.un
  have dp := hr.depth
  refine sorted_key_seq (b := false) (β := V × Int) (R := fun v b => RelV b.1 v) (fun b => PyData.int b.2) pl (each_vals rv) (fun d hd' d2 hd2 => ?_) (.inr fun d hd' => ?_) hlen (fun x _ => ?_) (PyProof.Rows.ksk_s1 _ _) (fun _ => PyProof.Rows.ksk_l1 _ _) (fun _ => PyProof.Rows.ksk_t1 _ _)
    (fun v x hR hx hp tk up => ?_) fun out n h' tk p up fr0 hout hl hE => ?_
  · obtain ⟨b1, _, rfl⟩ := List.mem_map.mp hd'
    obtain ⟨b2, _, rfl⟩ := List.mem_map.mp hd2
    rfl
  · obtain ⟨b1, _, rfl⟩ := List.mem_map.mp hd'
    exact ⟨(nomatch ·), fun xs => (nomatch ·)⟩
  · show X.A.units + 2 + 0 < cLine
    omega
  · obtain ⟨tp, ys, ex, ht⟩ := hk x hx
    rw [ex] at hR
    obtain rfl : v = Value.ref tp := hR
    obtain ⟨tis, tr, tpl, _⟩ := I2.tuple (ext.seqT tabs ht)
    obtain ⟨u0, tis', rfl, ru⟩ : ∃ u0 tis', tis = u0 :: tis' ∧ RelV (.int x.2) u0 := by
      cases tr with
      | cons r _ => exact ⟨_, _, rfl, r⟩
    obtain ⟨t0, rfl⟩ := ru
    have I3 : Inv X pins σ H2 { s2 with heap := hp, toks := tk } := I2.kept fun b o e => up b o e
    refine wpAny_call (PySem.W.kla_callFunE (A := X.A.in1.in1) (s := { s2 with heap := hp, toks := tk }) dp (up _ _ hf) rfl L.co L.gen rfl ⟨c', oc, cvs, tq, rfl, up _ _ hoc, hdc, hvc⟩ ?_)
    rw [L.bind]
    refine wpAny_pure (wpAny_newFunctionEnv (fun y hy => ?_) (fun y hy => ?_) (fun h₁ hns hsb => ⟨I3.nolimit.fresh _ hsb, ?_⟩) L.kind)
    · rw [show (PySem.W.kla_fn "<lambda>" (X.env.qual ++ "<lambda>") params (.Subscript (.Name a p1) (.Constant (.int 0) j p2) p3) scope (cloFrom X.env.cells scope.names []) pm (.ref c') ctv).scope = scope from rfl, L.names] at hy
      obtain rfl := List.mem_singleton.mp hy
      exact (nomatch ·)
    · obtain rfl := List.mem_singleton.mp hy
      show scope.names.lookup a = some .local
      rw [L.names]
      simp
    · have kp : ∀ b o, hp.get? b = some o → h₁.get? b = some o := fun b o e => hsb.extBut b o (Nat.ne_of_lt (Heap.lt_size e)) (Heap.get?_push_of_some _ e)
      refine PySem.W.kla_codeExpr (first_item (tp := tp) (m := fun y => [(a, Value.ref tp)].reverse.lookup y) (its := (Value.int x.2 t0 :: tis').toArray) (v0 := .int x.2 t0) L.kind ?_ hns (by simp) ?_ (by simp) hd fun tk' => ?_)
      · show scope.names.lookup a = some .local
        rw [L.names]
        simp
      · obtain ⟨o, e1, e2⟩ := tpl
        exact ⟨o, kp _ _ (up _ _ e1), e2⟩
      · exact ⟨h₁, tk', rfl, fun b o e => kp b o e, .int _ _⟩
  · have fr : H2 p = none := I2.hok.fresh fr0
    have vz : Vals ((bs.mergeSort keyLe).map (·.1)) out := by
      rw [keyLe_data] at hE
      exact vals_each hE
    refine ⟨.ref _, upd H2 p (.lst ((bs.mergeSort keyLe).map (·.1))), I2.laid (t' := tk) up fr0 ⟨?_, out, n, vz, hout⟩, rfl, q1 _ _ ext tabs2 fr⟩
    rw [List.length_map, List.length_mergeSort]
    exact hlen
end DD

/-! D13: sorted(set(xs)); sorted(xs, key=lambda x: x[0]); isinstance; classes and types by name -/
namespace DD
open PySem L2
open PyProof.Rows hiding St

/-! ### sorted(set(xs)) -/
def insU (x : Int) : List Int → List Int
  | [] => [x]
  | y :: ys => if x < y then x :: y :: ys else if x = y then y :: ys else y :: insU x ys
def sortU : List Int → List Int
  | [] => []
  | x :: xs => insU x (sortU xs)
theorem insU_mem (x z : Int) : ∀ l : List Int, z ∈ insU x l ↔ z = x ∨ z ∈ l
  | [] => by simp [insU]
  | y :: ys => by
    unfold insU
    split
    · simp
    · split
      · rename_i h; subst h; simp
      · rw [List.mem_cons, insU_mem x z ys, List.mem_cons]; constructor <;> (intro h; rcases h with h | h | h <;> simp [h])
theorem sortU_mem (z : Int) : ∀ l : List Int, z ∈ sortU l ↔ z ∈ l
  | [] => by simp [sortU]
  | x :: xs => by rw [sortU, insU_mem, sortU_mem z xs, List.mem_cons]
theorem insU_pw (x : Int) : ∀ l : List Int, l.Pairwise (· < ·) → (insU x l).Pairwise (· < ·)
  | [], _ => by simp [insU]
  | y :: ys, h => by
    obtain ⟨h1, h2⟩ := List.pairwise_cons.mp h
    unfold insU
    split
    · rename_i hlt
      exact List.pairwise_cons.mpr ⟨fun z hz => (List.mem_cons.mp hz).elim (fun q => by omega) fun q => by have := h1 z q; omega, h⟩
    · split
      · exact h
      · exact List.pairwise_cons.mpr ⟨fun z hz => ((insU_mem x z ys).mp hz).elim (fun q => by omega) fun q => h1 z q, insU_pw x ys h2⟩
theorem sortU_pw : ∀ l : List Int, (sortU l).Pairwise (· < ·)
  | [] => .nil
  | x :: xs => insU_pw x _ (sortU_pw xs)
theorem strict_uniq : ∀ {l m : List Int}, l.Pairwise (· < ·) → m.Pairwise (· < ·) → (∀ z, z ∈ l ↔ z ∈ m) → l = m
  | [], [], _, _, _ => rfl
  | [], y :: m, _, _, h => absurd ((h y).mpr List.mem_cons_self) (by simp)
  | x :: l, [], _, _, h => absurd ((h x).mp List.mem_cons_self) (by simp)
  | x :: l, y :: m, h1, h2, h => by
    obtain ⟨a1, a2⟩ := List.pairwise_cons.mp h1
    obtain ⟨b1, b2⟩ := List.pairwise_cons.mp h2
    have hxy : x = y := by
      rcases List.mem_cons.mp ((h x).mp List.mem_cons_self) with p | p
      · exact p
      · rcases List.mem_cons.mp ((h y).mpr List.mem_cons_self) with q | q
        · exact q.symm
        · have := b1 x p; have := a1 y q; omega
    subst hxy
    rw [strict_uniq a2 b2 fun z => ?_]
    constructor
    · intro hz
      rcases List.mem_cons.mp ((h z).mp (List.mem_cons_of_mem _ hz)) with q | q
      · have := a1 z hz; omega
      · exact q
    · intro hz
      rcases List.mem_cons.mp ((h z).mpr (List.mem_cons_of_mem _ hz)) with q | q
      · have := b1 z hz; omega
      · exact q
def dSortSet (d : Ls → R Dv) : Ls → R Nat := fun s => (d s).bind fun x s => match x with
  | .lst ds => (match toIs ds with
    | some is => if is.length + 1 < 4096 then dNew s ((sortU is).map .int) else .stuck
    | none => .stuck)
  | _ => .stuck
theorem sim_sortSet {G : Gx} {wish : WX} {ta : TE} {d : Ls → R Dv} (h : Sim G (rV G) wish ta d) : Sim G (rN G) wish (tSortSet G.K ta) (dSortSet d) := fun B W σ s Q e p =>
  h B W σ s _ e (Post.bind (rep := rV G) (rep2 := rN G) p fun x s1 v W1 _ e1 z1 r1 p1 => by
    cases x <;> first | exact p1.elim | skip
    rename_i ds _
    cases hi : toIs ds with
    | none => simp only [hi] at p1; exact p1.elim
    | some is =>
      simp only [hi] at p1
      by_cases hl : is.length + 1 < 4096
      · rw [if_pos hl] at p1
        cases r1 with
        | lst q1 q2 q3 =>
          rw [toIs_rep q3 hi] at q1
          refine ⟨_, is, rfl, SqL.of q1, hl, fun ns q h1 h2 hq => ?_⟩
          rw [strict_uniq h1 (sortU_pw is) fun z => (h2 z).trans (sortU_mem z is).symm]
          exact Post.push p1 e1 hq (RepL.ints _)
      · rw [if_neg hl] at p1
        exact p1.elim)
theorem dn_sortSet {X : Cx} {wish : WX} {a : Expr} {ta : TE} {d : Ls → R Dv} {p p2 q pos : Pos} (hc : X.calm = true) (hg : Gl X "sorted") (hm : X.mg "sorted" = none) (hg2 : Gl X "set") (hm2 : X.mg "set" = none) (hb : bootBuiltins "sorted" = some (.builtin "sorted")) (ha : DE X wish a ta d)
    (na : starEach [a] X.env = (false, eval a X.env) :: starEach [] X.env := by rfl) : DN X wish (.Call (.Name "sorted" p) [.Call (.Name "set" p2) [a] [] q] [] pos) (tSortSet X.K ta) (dSortSet d) := ⟨pe_sortSet hc hg hm hg2 hm2 hb ha.pe na, sim_sortSet ha.sim⟩

/-! ### sorted(xs, key=lambda x: x[0]) -/
def keyOf : Dv → Option Int
  | .tup (.int k :: _) => some k
  | _ => none
def keyed : List Dv → Option (List (Dv × Int))
  | [] => some []
  | d :: ds => match keyOf d, keyed ds with
    | some k, some r => some ((d, k) :: r)
    | _, _ => none
def keyLeD (x y : Dv × Int) : Bool := decide (x.2 ≤ y.2)
def sortK0 (bs : List (Dv × Int)) : List Dv := (bs.mergeSort keyLeD).map (·.1)
/-- item by item: the value, its key, its tree -/
structure Tri (G : Gx) (W : Wd) (t : V × Int × Dv) : Prop where
  rep : Rep G W t.1 t.2.2
  key : ∃ tp ys, t.1 = V.ref tp ∧ SqT G.K W.H tp (V.int t.2.1 :: ys)
theorem keyed_tri {G : Gx} {W : Wd} : ∀ {ds : List Dv} {vs : List V} {bs : List (Dv × Int)}, RepL G W vs ds → keyed ds = some bs → ∃ ts : List (V × Int × Dv), ts.map (·.1) = vs ∧ ts.map (fun t => (t.2.2, t.2.1)) = bs ∧ ∀ t ∈ ts, Tri G W t
  | _, _, _, .nil, h => by cases h; exact ⟨[], rfl, rfl, fun _ h => by cases h⟩
  | _, _, _, .cons (v := v) (d := d) r t, h => by
    simp only [keyed] at h
    split at h
    · rename_i k bs' h1 h2
      cases h
      obtain ⟨ts, e1, e2, e3⟩ := keyed_tri t h2
      refine ⟨(v, k, d) :: ts, by rw [List.map_cons, e1], by rw [List.map_cons, e2], fun t ht => ?_⟩
      rcases List.mem_cons.mp ht with rfl | ht
      · refine ⟨r, ?_⟩
        cases d <;> first | (simp [keyOf] at h1; done) | skip
        rename_i xs
        cases xs with
        | nil => simp [keyOf] at h1
        | cons x xs =>
          cases x <;> first | (simp [keyOf] at h1; done) | skip
          simp [keyOf] at h1
          subst h1
          cases r with
          | tup q1 q2 =>
            cases q2 with
            | cons q3 q4 =>
              cases q3
              exact ⟨_, _, rfl, q1⟩
      · exact e3 t ht
    · cases h
theorem tri_rep {G : Gx} {W : Wd} : ∀ {ts : List (V × Int × Dv)}, (∀ t ∈ ts, Tri G W t) → RepL G W (ts.map (·.1)) (ts.map fun t => t.2.2)
  | [], _ => .nil
  | t :: ts, h => .cons (h t List.mem_cons_self).rep (tri_rep fun u hu => h u (List.mem_cons_of_mem _ hu))
/-- the table of a store's object grows -/
theorem Emb.tab {G : Gx} {B W : Wd} {σ : L2.St} {s : Ls} (e : Emb G B W σ s) {n : Nat} {P : Addr} (hr : W.rho[n]? = some P) {C : Option Str} {x q : Str} (hm : W.mem[n]? = some (.tab C x q)) {H2 : Hp} (ts : TabStep W.H H2 P) (hP : LamX.TabS H2 P q) :
    Emb G B { W with H := H2 } σ s ∧ Stp W { W with H := H2 } := by
  have inr : P ∈ W.rho := List.mem_of_getElem? hr
  have hot : W.hot P := e.wok.hotr P inr
  have cell := e.wok.cells n _ P hm hr
  obtain ⟨ps, atP, _, _⟩ := cell.tab
  have no : ∀ b u, W.H b = some u → (∀ ps, u ≠ .tbl ps) → b ≠ P := fun b u h k z => by rw [z, atP] at h; exact k ps (Option.some.inj h).symm
  have z : Fz W.hot W.rho W.H W.hot W.rho H2 := ⟨fun b o hn h => ts.keep b o (fun q => hn (q ▸ hot)) h, fun _ _ h _ => h, fun b xs h => ts.keep b _ (no b _ h fun _ z => by cases z) h, fun b o fo h => ts.keep b o (no b _ h fun _ z => by subst z; cases fo) h, fun _ _ h => h⟩
  refine ⟨⟨⟨e.wok.nd, e.wok.len, fun b hb => ?_, e.wok.hotr, fun m ob b g1 g2 => ?_⟩, e.mem, e.len, fun j d hj => ?_, fun j es hj => ?_, e.ownI, ?_, e.bhot, e.tmpL, fun m es b g1 g2 => ?_, e.tmpN, e.tmpS⟩, ⟨z, fun _ _ h => h⟩⟩
  · obtain ⟨o, q⟩ := e.wok.hotd b hb
    exact ts.dom b o q
  · by_cases hb : b = P
    · subst hb
      have hlt : n < W.rho.length := (List.getElem?_eq_some_iff.mp hr).1
      obtain rfl : n = m := (List.getElem?_inj hlt e.wok.nd).mp (hr.trans g2.symm)
      obtain rfl : Ob.tab C x q = ob := Option.some.inj (hm.symm.trans g1)
      exact ⟨cell.of, hP⟩
    · exact (e.wok.cells m ob b g1 g2).fz (W' := { W with H := H2 }) z fun u h => ts.keep b u hb h
  · obtain ⟨v, q1, q2⟩ := e.val j d hj
    exact ⟨v, q1, RepX.mono z q2⟩
  · obtain ⟨b, ys, q1, q2, q3, q4, q5, q6⟩ := e.own j es hj
    exact ⟨b, ys, q1, ts.keep b _ (fun h => q5 (h ▸ inr)) q2, RepX.mono z q3, q4, q5, q6⟩
  · have c := e.stp
    refine ⟨fun b o h k => ts.keep b o (fun hb => ?_) (c.keep b o h k), fun b xs h => z.tups b xs (c.tups b xs h), fun b o fo h => z.frzs b o fo (c.frzs b o fo h), c.pre, c.hotB, c.hotN, c.rhoN, fun b o h => ?_⟩
    · subst hb
      rcases c.rhoN _ inr with h' | h'
      · exact k h'
      · rw [h] at h'; cases h'
    · obtain ⟨o', h'⟩ := c.dom b o h
      exact ts.dom b o' h'
  · obtain ⟨⟨ys, q1, q2⟩, q3, q4, q5⟩ := e.tmpO m es b g1 g2
    exact ⟨⟨ys, ts.keep b _ (fun h => q4 (h ▸ inr)) q1, RepX.mono z q2⟩, q3, q4, q5⟩
def isTab (o : Option Ob) (C : Option Str) (x q : Str) : Bool := match o with
  | some (.tab C' x' q') => decide (C' = C ∧ x' = x ∧ q' = q)
  | _ => false
theorem isTab_some {o : Option Ob} {C : Option Str} {x q : Str} (h : isTab o C x q = true) : o = some (.tab C x q) := by
  unfold isTab at h
  split at h
  · obtain ⟨rfl, rfl, rfl⟩ := of_decide_eq_true h
    rfl
  · cases h
/-- the items of a list or a tuple -/
def seqK : Dv → Option (List Dv)
  | .lst ds => some ds
  | .tup ds => some ds
  | _ => none
theorem seqK_lst {ds : List Dv} : seqK (.lst ds) = some ds := rfl
theorem seqK_tup {ds : List Dv} : seqK (.tup ds) = some ds := rfl
theorem seqK_view {G : Gx} {W : Wd} {v : V} {x : Dv} {ds : List Dv} (h : View G W v x) (e : seqK x = some ds) : ∃ a xs, v = .ref a ∧ (SqL G.K W.H a xs ∨ SqT G.K W.H a xs) ∧ RepL G W xs ds := by
  cases x <;> first | (cases e; done) | skip
  · cases e
    have h' : Rep G W v (.tup ds) := h
    cases h' with
    | tup h2 h3 => exact ⟨_, _, rfl, .inr h2, h3⟩
  · cases e
    obtain ⟨a, xs, h1, h2, h3⟩ := h
    exact ⟨a, xs, h1, .inl (SqL.of h2), h3⟩
def dSortK0 (n : Nat) (C : Option Str) (x q : Str) (d : Ls → R (List Dv)) : Ls → R Nat := fun s => (d s).bind fun xs s => match xs with
  | [y] => (match seqK (lookDv s.mem y) with
    | some ds => (match keyed ds with
      | some bs => if isTab s.mem[n]? C x q = true then dNew s (sortK0 bs) else .stuck
      | none => .stuck)
    | none => .stuck)
  | _ => .stuck
theorem sim_sortK0 {G : Gx} {wish : WX} {c f : Addr} {n : Nat} {C : Option Str} {x q : Str} {t : TA} {d : Ls → R (List Dv)} {oc : Value} {od : Option Addr} {fd : FuncData} {osl : Array (Option Value)} (hf : HomeFn G x f C) (hl : G.K.lookup f = some ⟨oc, od, .func fd, osl⟩) (hcd : fd.code = .ref c) (h : Sim G (rL G) wish t d) : Sim G (rN G) wish (tSortK0 G.base G.K G.mg c q t) (dSortK0 n C x q d) := fun B W σ s Q e p =>
  h B W σ s _ e (Post.bind (rep := rL G) (rep2 := rN G) p fun xs s1 vs W1 _ e1 z1 r1 p1 => by
    split at p1 <;> first | exact p1.elim | skip
    rename_i y0 _
    split at p1 <;> first | exact p1.elim | skip
    rename_i ds hy0
    cases hk : keyed ds with
    | none => simp only [hk] at p1; exact p1.elim
    | some bs =>
      simp only [hk] at p1
      by_cases hT : isTab s1.mem[n]? C x q = true
      case neg => rw [if_neg hT] at p1; exact p1.elim
      rw [if_pos hT] at p1
      have hm := isTab_some hT
      rw [e1.mem] at hm
      have hn : n < W1.rho.length := by rw [e1.wok.len]; exact (List.getElem?_eq_some_iff.mp hm).1
      have hr : W1.rho[n]? = some W1.rho[n] := List.getElem?_eq_getElem hn
      have cell := e1.wok.cells n _ _ hm hr
      obtain ⟨f', oc', od', fd', osl', c', k1, k2, k3, k4⟩ := cell.of
      have ef : f' = f := by
        cases C with
        | none =>
          have a1 : G.mg x = some (.ref f') := k1
          have a2 : G.mg x = some (.ref f) := hf
          rw [a1] at a2; cases a2; rfl
        | some Cn =>
          obtain ⟨C1, a1, a2⟩ := k1
          obtain ⟨C2, b1, b2⟩ := hf
          rw [a1] at b1; cases b1
          rw [a2] at b2; cases b2; rfl
      subst ef
      rw [k2] at hl; cases hl
      rw [k3] at hcd; cases hcd
      cases r1 with
      | cons r1 r2 =>
        cases r2
        have vw := lookDv_view e1.wok r1
        rw [← e1.mem] at vw
        obtain ⟨la, lxs, rfl, q1, q3⟩ := seqK_view vw hy0
        · obtain ⟨ts, t1, t2, t3⟩ := keyed_tri q3 hk
          refine ⟨_, ts.map fun t => (t.1, t.2.1), W1.rho[n], rfl, ?_, fun b hb => ?_, k4, cell.tab, fun H2 a st tab2 hp => ?_⟩
          · rw [List.map_map]
            rw [← t1] at q1
            exact q1
          · obtain ⟨t, ht, rfl⟩ := List.mem_map.mp hb
            exact (t3 t ht).key
          · obtain ⟨e2, z2⟩ := e1.tab hr hm st tab2
            have es : (((ts.map fun t => (t.1, t.2.1)).mergeSort keyLe).map (·.1)) = (ts.mergeSort fun a b => decide (a.2.1 ≤ b.2.1)).map (·.1) := by
              rw [← List.map_mergeSort (r := fun a b : V × Int × Dv => decide (a.2.1 ≤ b.2.1)) (s := keyLe) (f := fun t : V × Int × Dv => (t.1, t.2.1)) (fun _ _ _ _ => rfl), List.map_map]
              rfl
            have ed : sortK0 bs = (ts.mergeSort fun a b => decide (a.2.1 ≤ b.2.1)).map fun t => t.2.2 := by
              unfold sortK0
              rw [← t2, ← List.map_mergeSort (r := fun a b : V × Int × Dv => decide (a.2.1 ≤ b.2.1)) (s := keyLeD) (f := fun t : V × Int × Dv => (t.2.2, t.2.1)) (fun _ _ _ _ => rfl), List.map_map]
              rfl
            rw [es]
            rw [ed] at p1
            refine Post.push (W := { W1 with H := H2 }) (p1.step z2) e2 hp (tri_rep fun t ht => ?_)
            have tt := t3 t (List.mem_mergeSort.mp ht)
            obtain ⟨tp, ys, k5, k6⟩ := tt.key
            exact ⟨RepX.mono z2.fz tt.rep, tp, ys, k5, z2.fz.seqT k6⟩)
theorem dn_sortK0 {X : Cx} {wish : WX} {k n : Nat} {C : Option Str} {x : Str} {a : Str} {params : Arguments} {scope : Scope} {c f : Addr} {e : Expr} {t : TA} {d : Ls → R (List Dv)} {oc : Value} {od : Option Addr} {fd : FuncData} {osl : Array (Option Value)} {p pos lpos kpos p1 p2 p3 : Pos} {j : Nat} (hf : HomeFn (gx X) x f C) (hl : X.K.lookup f = some ⟨oc, od, .func fd, osl⟩) (hcd : fd.code = .ref c)
    (hr : Room k X.A) (hcode : X.env.code = .ref c) (L : KeyLam X a params scope) (hg : Gl X "sorted") (hm : X.mg "sorted" = none) (hv : bootBuiltins "sorted" = some (.builtin "sorted")) (ha : DA X wish [e] t d) (hd : (a == ("__debug__" : Str)) = false := by decide)
    (he : backTo pos (starEach [e] X.env) = (false, eval e X.env) :: backTo pos (starEach [] X.env) := by rfl) (hpl : (backTo pos (starEach [e] X.env)).any (·.1) = false := by rfl) :
    DN X wish (.Call (.Name "sorted" p) [e] [⟨some (Str.ofString "key"), .Lambda params (.Subscript (.Name a p1) (.Constant (.int 0) j p2) p3) scope lpos, kpos⟩] pos) (tSortK0 X.base X.K X.mg c (X.env.qual ++ "<lambda>") t) (dSortK0 n C x (X.env.qual ++ "<lambda>") d) :=
  ⟨pe_sortK0 hr hcode L hd hg hm hv ha.pa he hpl, sim_sortK0 (G := gx X) hf hl hcd ha.sim⟩
end DD

/-! D14: own special methods -/
namespace DD
open PySem L2
open PyProof.Rows hiding St

/-- a def that can be called at any place below; nothing is let out -/
structure FnA (X : Cx) (k : Nat) (a : Addr) (f : Den) : Prop where
  run : ∀ (A1 : Around), Sub X k A1 → ∀ (pins : List (Addr × Obj)) (s : Shared) (σ : L2.St) (W : Wd) (us : List Value) (vs : List V) (xs : List Dv) (Q : VK) (E : Value → Shared → Prop), Inv X pins σ W.H s → Vals vs us → WOk (gx X) W → RepL (gx X) W vs xs →
    wantD (gx X) W noX σ Q (f xs W.mem) → wpAny (model X.prog X.w) A1 (call (.ref a) us) (EP X pins σ Q) E s
theorem FnA.mono {X : Cx} {k m : Nat} {a : Addr} {f : Den} (h : FnA X k a f) (hk : k ≤ m) : FnA X m a f := ⟨fun A1 sb => h.run A1 (sb.mono hk)⟩
theorem env_at {X : Cx} {n : Nat} {A1 : Around} {pins : List (Addr × Obj)} {s : Shared} {σ : L2.St} {H : Hp} (sb : Sub X n A1) (I : Inv X pins σ H s) : Env0 X.prog X.w X.K X.mg X.base A1 X.stack s H := by
  have e := I.env0
  exact ⟨by rw [sb.fr]; exact e.frames, e.mod, e.bs, e.bsz, e.funs, e.frf, e.hok, e.bare⟩
theorem fnA_of {X : Cx} {CX : CXT} {k n : Nat} {a : Addr} {fd : FuncData} {ps : List Str} {ex : Bool} {f : Den} {ds : List Value} {dvs : List V} {dds : List Dv} (F : FnOk X.prog X.w X.K X.mg X.base CX k a fd ps (spD (gx X) ex n f)) (hCX : ∀ st H s e s', CX st H s E0 e s' → False) (hb : Binds X.K fd ps ds) (hd : Vals dvs ds) (hdd : ∀ W, RepL (gx X) W dvs dds) : FnA X k a (withD n dds (noEx f)) := ⟨fun A1 sb pins s σ W us vs xs Q E I r ok rl h => by
  by_cases hl : xs.length + dds.length = n
  case neg => simp only [withD, if_neg hl] at h; exact h.elim
  simp only [withD, if_pos hl] at h
  have r2 : Vals (vs ++ dvs) (us ++ ds) := r.append hd
  have hs : spD (gx X) ex n f (vs ++ dvs) W.H Q E0 := ⟨W, xs ++ dds, rfl, ok, RepL.append rl (hdd W), by rw [List.length_append]; exact hl, by
    unfold noEx at h
    cases hf : f (xs ++ dds) W.mem with
    | ok x m => rw [hf] at h; exact h
    | err x m => rw [hf] at h; exact h.elim
    | stuck => rw [hf] at h; exact h⟩
  have hl2 : (us ++ ds).length = ps.length := by rw [← r2.length]; exact F.len _ _ _ _ hs
  refine wpAny_call (codeAny_mono (F.run A1 X.stack s W.H ⟨us, []⟩ (us ++ ds) (vs ++ dvs) Q E0 sb.room (env_at sb I) (hb s us I.kIn hl2) r2 hs) fun r s' hq => ?_)
  cases r with
  | error e => exact (hCX _ _ _ _ _ hq).elim
  | ok fl =>
    cases fl with
    | ret u => exact I.after hq
    | next => exact False.elim hq
    | brk => exact False.elim hq
    | cont => exact False.elim hq⟩
theorem no0 (st : List Env) (H : Hp) (s : Shared) (e : Value) (s' : Shared) (h : CX0 st H s E0 e s') : False := h
theorem noL {P : Program} {w : World} (st : List Env) (H : Hp) (s : Shared) (e : Value) (s' : Shared) (h : L2.CX P w st H s E0 e s') : False := by
  obtain ⟨_, _, _, _, _, _, _, _, _, _, _, _, q⟩ := h
  exact q
/-- the classes' own methods of a name -/
def OwnTab (X : Cx) (k : Nat) (m : Str) (T : Str → Option Den) : Prop := ∀ C f, T C = some f → ∃ Ca fa, X.mg C = some (.ref Ca) ∧ PySem.W.findIn X.K (.ref Ca) m = some (some (.ref fa)) ∧ PySem.W.isFn X.K (.ref fa) = true ∧ FnA X k fa f
/-- an object of the store, and what its class's own method gives -/
structure At (G : Gx) (W : Wd) (H : Hp) (n : Nat) (a : Addr) (C : Str) : Prop where
  H : W.H = H
  ok : WOk G W
  rho : W.rho[n]? = some a
  mem : ∃ fs, W.mem[n]? = some (.ins C fs)
theorem At.ins {G : Gx} {W : Wd} {H : Hp} {n : Nat} {a : Addr} {C : Str} (h : At G W H n a C) : ∃ Ca dx l, G.mg C = some (.ref Ca) ∧ H a = some (.ins Ca dx l) := by
  obtain ⟨fs, hm⟩ := h.mem
  obtain ⟨Ca, dx, l, h1, h2, _⟩ := h.ok.cells n _ a hm h.rho
  exact ⟨Ca, dx, l, h1, by rw [← h.H]; exact h2⟩
def insC (o : Option Ob) : Option Str := match o with
  | some (.ins C _) => some C
  | _ => none
theorem insC_some {o : Option Ob} {C : Str} (h : insC o = some C) : ∃ fs, o = some (.ins C fs) := by
  unfold insC at h
  split at h
  · cases h; exact ⟨_, rfl⟩
  · cases h
/-- behind an own method: only an answer is wanted -/
def wantR (G : Gx) (W : Wd) (Q : VK) (r : RF) : Prop := ∃ x m, r = .ok x m ∧ ∀ v W', WOk G W' → W'.mem = m → CStp W W' → Rep G W' v x → Q v W'.H
theorem wantR.want {G : Gx} {W : Wd} {σ : L2.St} {Q : VK} {r : RF} (h : wantR G W Q r) : wantD G W noX σ Q r := by
  obtain ⟨x, m, rfl, q⟩ := h
  exact q
theorem wantR_of {G : Gx} {B W : Wd} {wish : WX} {σ : L2.St} {s : Ls} {Q : VK} {x : Dv} {m : List Ob} {r : RF} (hr : r = .ok x m) (e : Emb G B W σ s) (h : Post G B W wish σ (rV G) Q (.ok x { s with mem := m })) : wantR G W Q r := ⟨x, m, hr, fun v W' ok hm c rp => by
  obtain ⟨e', z⟩ := e.call ok hm c
  exact h v { W' with tmp := W.tmp } e' z rp⟩

/-! ### len -/
def rLenO (G : Gx) (T : Str → Option Den) : List V → Hp → VK → Prop := fun xs H Q => ∃ W n a C f i m, xs = [V.ref a] ∧ At G W H n a C ∧ T C = some f ∧ f [.ref n] W.mem = .ok (.int i) m ∧ 0 ≤ i ∧ i < 2 ^ 63 ∧ ∀ W', WOk G W' → W'.mem = m → CStp W W' → Q (.int i) W'.H
theorem len_own {X : Cx} {k : Nat} {T : Str → Option Den} (hT : OwnTab X k "__len__" T) (hr : Room (k + 1) X.A) : CallR X (.builtin "len") (rLenO (gx X) T) := by
  intro pins s σ H xs us Q I rv h
  obtain ⟨W, n, a, C, f, i, m, rfl, at0, hf, hv, h0, h1, q⟩ := h
  obtain ⟨u, rfl, ru⟩ := rv.one
  cases ru
  obtain ⟨Ca, dx, l, g1, g2⟩ := at0.ins
  obtain ⟨Ca', fa, k1, k2, k3, F⟩ := hT C f hf
  rw [show X.mg C = some (.ref Ca) from g1] at k1; cases k1
  obtain ⟨mA, J, _⟩ := ins_get I.hok g2
  obtain ⟨od, J, _⟩ := J.look
  obtain ⟨m0, hF⟩ := I.fr
  have hH := at0.H
  subst hH
  refine PySem.W.len_K hF I.ok.mod.kin J k2 k3 (wpAny_mono (F.run X.A.in1 (Sub.in1 ⟨hr, rfl⟩) pins s σ W [.ref a] [.ref a] [.ref n] (fun v H' => v = .int i ∧ Q (.int i) H') _ I (.cons rfl .nil) at0.ok (.cons (.ref at0.rho) .nil) (by
    rw [hv]
    intro v W' ok' hm' c' rp
    cases rp
    exact ⟨rfl, q W' ok' hm' c'⟩)) (fun v s' hv' => ?_) fun _ _ e => e)
  obtain ⟨z, H', I', rz, ez, hq⟩ := hv'
  subst ez
  obtain ⟨t, rfl⟩ := rz
  exact ⟨⟨h0, h1⟩, .int i, H', I'.tok _, ⟨_, rfl⟩, hq⟩
def dLenA (T : Str → Option Den) (da : Ls → R (List Rd)) : Ls → R Dv := fun s => (da s).bind fun rs s => match lookAll rs s with
  | some [.ref n] => (match (insC s.mem[n]?).bind T with
    | some f => (match f [.ref n] s.mem with
      | .ok (.int i) m => if 0 ≤ i ∧ i < 2 ^ 63 then .ok (.int i) { s with mem := m } else .stuck
      | _ => .stuck)
    | none => .stuck)
  | some xs => R.of (fLen xs) s
  | none => .stuck
def rLenX (G : Gx) (T : Str → Option Den) : List V → Hp → VK → Prop := fun xs H Q => rLenA G.K xs H Q ∨ rLenO G T xs H Q
theorem View.ref_rho {G : Gx} {W : Wd} {v : V} {n : Nat} (h : View G W v (.ref n)) : ∃ a, v = .ref a ∧ W.rho[n]? = some a := by
  cases h with
  | ref h => exact ⟨_, rfl, h⟩
theorem sim_lenA {G : Gx} {wish : WX} {T : Str → Option Den} {ta : TA} {da : Ls → R (List Rd)} (ha : Sim G (rRs G) wish ta da) : Sim G (rV G) wish (tCB (rLenX G T) ta) (dLenA T da) := fun B W σ s Q e p =>
  ha B W σ s _ e (Post.bind (rep := rRs G) (rep2 := rV G) p fun rs s1 vs W1 _ e1 z1 r1 p1 => by
    cases hl : lookAll rs s1 with
    | none => simp only [hl] at p1; exact p1.elim
    | some xs =>
      have hv := lookAll_view e1 r1 hl
      simp only [hl] at p1
      split at p1
      · rename_i n heq
        cases heq
        obtain ⟨v, rfl, hv1⟩ := hv.one
        obtain ⟨a, rfl, hr⟩ := hv1.ref_rho
        split at p1
        · rename_i f hf
          obtain ⟨C, hC, hT⟩ := bind1 hf
          obtain ⟨fs, hm⟩ := insC_some hC
          split at p1
          · rename_i i m hfr
            split at p1
            · rename_i hi
              rw [e1.mem] at hm hfr
              exact .inr ⟨W1, n, a, C, f, i, m, rfl, ⟨rfl, e1.wok, hr, fs, hm⟩, hT, hfr, hi.1, hi.2, fun W' ok' hm' c' => by
                obtain ⟨e', z'⟩ := e1.call ok' hm' c'
                exact p1 (.int i) { W' with tmp := W1.tmp } e' z' (.int i)⟩
            · exact p1.elim
          · exact p1.elim
        · exact p1.elim
      · rename_i xs' hne heq
        cases heq
        obtain ⟨c, hc, p2⟩ := Post.of p1
        exact .inl (pure_len W1 vs xs Q c e1.wok hv hc fun u H' g rp => Post.fresh p2 e1 g rp)
      · rename_i heq; cases heq)
theorem de_len {X : Cx} {wish : WX} {k : Nat} {T : Str → Option Den} {e : Expr} {ta : TA} {da : Ls → R (List Rd)} {p pos : Pos} (hT : OwnTab X k "__len__" T) (hr : Room (k + 1) X.A) (hg : Gl X "len") (hm : X.mg "len" = none) (hv : bootBuiltins "len" = some (.builtin "len")) (ha : DAr X wish [e] ta da)
    (he : starEach [e] X.env = (false, eval e X.env) :: starEach [] X.env := by rfl) (hpl : (backTo pos (starEach [] X.env)).any (·.1) = false := by rfl) : DE X wish (.Call (.Name "len" p) [e] [] pos) (tCB (rLenX (gx X) T) ta) (dLenA T da) :=
  ⟨pe_callB (CallR.or call_len (len_own hT hr)) hg hm hv ha.pa (by decide) (by decide) he hpl, sim_lenA ha.sim⟩
theorem ownTab_none {X : Cx} {k : Nat} {m : Str} : OwnTab X k m fun _ => none := fun C f h => by cases h

/-! ### x[i] -/
def IxTab (X : Cx) (k : Nat) (T : Str → Option Den) : Prop := OwnTab X k "__getitem__" T ∧ ∀ C f Ca fa, T C = some f → X.mg C = some (.ref Ca) → PySem.W.findIn X.K (.ref Ca) "__getitem__" = some (some (.ref fa)) → PySem.W.fnIn X.K fa = true
def rIxO (G : Gx) (T : Str → Option Den) : R2 := fun x y H Q => ∃ W n a C f iy, x = V.ref a ∧ At G W H n a C ∧ T C = some f ∧ Rep G W y iy ∧ wantR G W Q (f [.ref n, iy] W.mem)
theorem ix_own {X : Cx} {k : Nat} {T : Str → Option Den} (hT : IxTab X k T) (hr : Room (k + 1) X.A) {value slice : Expr} {pins : List (Addr × Obj)} {s : Shared} {σ : L2.St} {H : Hp} {x y : V} {v u : Value} {Q : VK} (I : Inv X pins σ H s) (rx : L2.RelV x v) (ry : L2.RelV y u) (h : rIxO (gx X) T x y H Q)
    (hsl : subscripted slice true v u = runValue (.builtin "lifetime.subscript" ⟨[v, u], []⟩)) : wpAny (model X.prog X.w) X.A (subscriptTail value slice v u) (EP X pins σ Q) X.xe s := by
  obtain ⟨W, n, a, C, f, iy, rfl, at0, hf, ry', q⟩ := h
  cases rx
  obtain ⟨Ca, dx, l, g1, g2⟩ := at0.ins
  obtain ⟨Ca', fa, k1, k2, k3, F⟩ := hT.1 C f hf
  rw [show X.mg C = some (.ref Ca) from g1] at k1; cases k1
  obtain ⟨mA, J, _⟩ := ins_get I.hok g2
  obtain ⟨od, J, _⟩ := J.look
  obtain ⟨m0, hF⟩ := I.fr
  have hH := at0.H
  subst hH
  exact PySem.W.sub_K hF I.ok.mod.kin J k2 (hT.2 C f _ fa hf g1 k2) k3 (F.run X.A.in1 (Sub.in1 ⟨hr, rfl⟩) pins s σ W [.ref a, u] [.ref a, y] [.ref n, iy] Q _ I (.cons rfl (.cons ry .nil)) at0.ok (.cons (.ref at0.rho) (.cons ry' .nil)) q.want) hsl
def rIxX (G : Gx) (T : Str → Option Den) : R2 := fun x y H Q => rIx G.K x y H Q ∨ rIxO G T x y H Q
/-- what stands as an index -/
structure PlainIx2 (b : Expr) : Prop where
  no : PlainIx b
  yes : ∀ v u, subscripted b true v u = runValue (.builtin "lifetime.subscript" ⟨[v, u], []⟩)
theorem pe_ixA {X : Cx} {k : Nat} {T : Str → Option Den} {a b : Expr} {ta tb : TE} {pos : Pos} (hT : IxTab X k T) (hr : Room (k + 1) X.A) (ha : PE X a ta) (hb : PE X b tb) (hs : PlainIx2 b) : PE X (.Subscript a b pos) (tOp (rIxX (gx X) T) ta tb) := by
  refine ⟨fun pins s σ H Q I h => ?_⟩
  exact PyProof.Rows.Subscript_ (binT ha hb I h fun v u s2 x y H2 I2 rx ry q => q.elim (fun q => ix_seq a b pins s2 σ H2 x y v u Q I2 rx ry q (hs.no _ _)) fun q => ix_own hT hr I2 rx ry q (hs.yes _ _))
/-- the index is settled when the thing is an object -/
def dIxA (T : Str → Option Den) (da : Ls → R Rd) (db : Ls → R Dv) : Ls → R Dv := fun s => (da s).bind fun x s => (db s).bind fun y s => match x.look s with
  | some (.ref n) => (match (insC s.mem[n]?).bind T with
    | some f => (match f [.ref n, y] s.mem with
      | .ok z m => .ok z { s with mem := m }
      | _ => .stuck)
    | none => .stuck)
  | some a => R.of (fIx a y) s
  | none => .stuck
theorem sim_ixA {G : Gx} {wish : WX} {T : Str → Option Den} {ta tb : TE} {da : Ls → R Rd} {db : Ls → R Dv} (ha : Sim G (rR G) wish ta da) (hb : Sim G (rV G) wish tb db) : Sim G (rV G) wish (tOp (rIxX G T) ta tb) (dIxA T da db) := fun B W σ s Q e p =>
  ha B W σ s _ e (Post.bind (rep := rR G) (rep2 := rV G) p fun x s1 v W1 _ e1 z1 r1 p1 =>
    hb B W1 σ s1 _ e1 (Post.bind (rep := rV G) (rep2 := rV G) p1 fun y s2 w W2 _ e2 z2 r2 p2 => by
      cases hl : x.look s2 with
      | none => simp only [hl] at p2; exact p2.elim
      | some a =>
        have hv := look_view e2 (r1.mono z2) hl
        simp only [hl] at p2
        split at p2
        · rename_i n heq
          cases heq
          obtain ⟨a, rfl, hr⟩ := hv.ref_rho
          split at p2
          · rename_i f hf
            obtain ⟨C, hC, hT⟩ := bind1 hf
            obtain ⟨fs, hm⟩ := insC_some hC
            split at p2
            · rename_i z m hfr
              rw [e2.mem] at hm hfr
              exact .inr ⟨W2, n, a, C, f, y, rfl, ⟨rfl, e2.wok, hr, fs, hm⟩, hT, r2, wantR_of hfr e2 p2⟩
            · exact p2.elim
          · exact p2.elim
        · rename_i a' hne heq
          cases heq
          obtain ⟨c, hc, p3⟩ := Post.of p2
          exact .inl (pure_ix W2 v w _ y Q c e2.wok hv (View.of r2) hc fun u H' g rp => Post.fresh p3 e2 g rp)
        · rename_i heq; cases heq))
theorem de_ixA {X : Cx} {wish : WX} {k : Nat} {T : Str → Option Den} {a b : Expr} {ta tb : TE} {da : Ls → R Rd} {db : Ls → R Dv} {pos : Pos} (hT : IxTab X k T) (hr : Room (k + 1) X.A) (ha : DR X wish a ta da) (hb : DE X wish b tb db) (hs : PlainIx2 b) : DE X wish (.Subscript a b pos) (tOp (rIxX (gx X) T) ta tb) (dIxA T da db) :=
  ⟨pe_ixA hT hr ha.pe hb.pe hs, sim_ixA ha.sim hb.sim⟩

/-! ### x[i] = e -/
/-- no class of a built-in sequence -/
def SetTab (X : Cx) (k : Nat) (T : Str → Option Den) : Prop := OwnTab X k "__setitem__" T ∧ ∀ C f Ca, T C = some f → X.mg C = some (.ref Ca) → PySem.W.noSeq X.K Ca = true
def rSetO (G : Gx) (T : Str → Option Den) : TSet := fun x y z H Q => ∃ W n a C f iy iz, x = V.ref a ∧ At G W H n a C ∧ T C = some f ∧ Rep G W y iy ∧ Rep G W z iz ∧ wantR G W (fun _ H' => Q H') (f [.ref n, iy, iz] W.mem)
theorem set_own {X : Cx} {k : Nat} {T : Str → Option Den} (hT : SetTab X k T) (hr : Room k X.A) : PSet X (rSetO (gx X) T) := by
  intro pins s σ H o i v ov iv u Q I ro ri rv h
  obtain ⟨W, n, a, C, f, iy, iz, rfl, at0, hf, ry', rz', q⟩ := h
  cases ro
  obtain ⟨Ca, dx, l, g1, g2⟩ := at0.ins
  obtain ⟨Ca', fa, k1, k2, k3, F⟩ := hT.1 C f hf
  rw [show X.mg C = some (.ref Ca) from g1] at k1; cases k1
  obtain ⟨mA, J, _⟩ := ins_get I.hok g2
  obtain ⟨od, J, _⟩ := J.look
  obtain ⟨m0, hF⟩ := I.fr
  have hH := at0.H
  subst hH
  refine PySem.W.ksp_setItem hF I.ok.mod.kin J (hT.2 C f _ hf g1) k2 k3 (wpAny_mono (F.run X.A ⟨hr, rfl⟩ pins s σ W [.ref a, iv, u] [.ref a, i, v] [.ref n, iy, iz] (fun _ H' => Q H') _ I (.cons rfl (.cons ri (.cons rv .nil))) at0.ok (.cons (.ref at0.rho) (.cons ry' (.cons rz' .nil))) q.want) (fun r s' hq => ?_) fun _ _ e => e)
  obtain ⟨z, H', I', _, hq⟩ := hq
  exact ⟨H', I', hq⟩
theorem PSet.or {X : Cx} {t u : TSet} (h : PSet X t) (h' : PSet X u) : PSet X (fun o i v H Q => t o i v H Q ∨ u o i v H Q) := fun pins s σ H o i v ov iv w Q I ro ri rv q => q.elim (h pins s σ H o i v ov iv w Q I ro ri rv) (h' pins s σ H o i v ov iv w Q I ro ri rv)
def rSetX (G : Gx) (T : Str → Option Den) : TSet := fun o i v H Q => rSetL o i v H Q ∨ rSetO G T o i v H Q
def refOf (r : Rd) (s : Ls) : Option Nat := match r.look s with
  | some (.ref n) => some n
  | _ => none
def dSetIxA (T : Str → Option Den) (d : Ls → R Dv) (dr : Ls → R Rd) (di : Ls → R Dv) : Ls → Fl := fun s => (d s).fl fun x s => (dr s).fl fun r s => (di s).fl fun i s => match r.list s, i with
  | some ds, .int k => (match ixN ds.length k with
    | some j => .nx (r.put (ds.set j x) s)
    | none => .stuck)
  | some _, _ => .stuck
  | none, i => (match refOf r s with
    | some n => (match (insC s.mem[n]?).bind T with
      | some f => (match f [.ref n, i, x] s.mem with
        | .ok _ m => .nx { s with mem := m }
        | _ => .stuck)
      | none => .stuck)
    | none => .stuck)
theorem ds_setIxA {X : Cx} {wish : WX} {k : Nat} {T : Str → Option Den} {o i e : Expr} {te to ti : TE} {d di : Ls → R Dv} {dr : Ls → R Rd} {pos tpos : Pos} (hT : SetTab X k T) (hrm : Room k X.A) (h : DE X wish e te d) (ho : DR X wish o to dr) (hi : DE X wish i ti di) (hs : swapsWithSole [.Subscript o i tpos] e pos.line X.env = pure false := by rfl)
    (hw : swappedStores [.Subscript o i tpos] e X.env = pure none := by rfl) (h1 : (assignEach [.Subscript o i tpos] X.env).map (·.2) = [assign (.Subscript o i tpos) X.env] := by rfl)
    (ha : ∀ v, assign (.Subscript o i tpos) X.env v = (do
      let ov ← holding [v] (eval o X.env)
      let iv ← holding [v, ov] (eval i X.env)
      standAt tpos
      holding [v, ov, iv] (setItem ov iv v)
      release [v, ov, iv] []) := by intro _; rfl) : DS X wish (.Assign [.Subscript o i tpos] e pos) (tAsg te (gSub to ti (rSetX (gx X) T))) (dSetIxA T d dr di) := by
  refine ⟨ps_asg h.pe (pg_sub ho.pe hi.pe (PSet.or set_list (set_own hT hrm)) ha) hs hw h1, fun B W σ s D em p => ?_⟩
  refine h.sim B W σ s _ em (Post.fl (rep := rV (gx X)) p fun x s1 v W1 _ e1 z1 r1 p1 => ?_)
  refine ho.sim B W1 σ s1 _ e1 (Post.fl (rep := rR (gx X)) p1 fun r s2 w W2 _ e2 z2 r2 p2 => ?_)
  refine hi.sim B W2 σ s2 _ e2 (Post.fl (rep := rV (gx X)) p2 fun ky s3 u W3 hd3 e3 z3 r3 p3 => ?_)
  split at p3
  · rename_i dd ds kk hl
    split at p3
    · rename_i j hj
      obtain ⟨l, xs, rfl, g1, g2, g3⟩ := e3.put (r2.mono z3) hl
      cases r3
      obtain ⟨W4, k1, k2, k3⟩ := g3 (xs.set j v) (ds.set j x) (RepL.set (RepX.mono (z2.trans z3).fz r1) j g2)
      refine .inl ⟨l, xs, kk, j, rfl, rfl, g1, by rw [RepL.length g2]; exact hj, ?_⟩
      rw [← k1]
      exact p3 σ W4 k2 k3
    · exact p3.elim
  · exact p3.elim
  · split at p3
    · rename_i n hn
      split at p3
      · rename_i f hf
        obtain ⟨C, hC, hT'⟩ := bind1 hf
        obtain ⟨fs, hm⟩ := insC_some hC
        split at p3
        · rename_i z m hfr
          have hlk : r.look s3 = some (.ref n) := by
            unfold refOf at hn
            split at hn
            · rename_i n' hh; cases hn; exact hh
            · cases hn
          obtain ⟨a, rfl, hr⟩ := (look_view e3 (r2.mono z3) hlk).ref_rho
          rw [e3.mem] at hm hfr
          refine .inr ⟨W3, n, a, C, f, _, x, rfl, ⟨rfl, e3.wok, hr, fs, hm⟩, hT', r3, RepX.mono (z2.trans z3).fz r1, z, m, hfr, fun v' W' ok' hm' c' rp => ?_⟩
          obtain ⟨e', z'⟩ := e3.call ok' hm' c'
          exact p3 σ { W' with tmp := W3.tmp } e' z'
        · exact p3.elim
      · exact p3.elim
    · exact p3.elim

/-! ### ==, != -/
def EqTab (X : Cx) (k : Nat) (T : Str → Option Den) : Prop := OwnTab X k "__eq__" T
def rEqO (G : Gx) (T : Str → Option Den) : R2 := fun x y H Q => ∃ W n a C f m b c, x = V.ref a ∧ y = V.ref b ∧ At G W H n a C ∧ At G W H m b C ∧ T C = some f ∧ (∃ ms, f [.ref n, .ref m] W.mem = .ok (.bl c) ms ∧ ∀ W', WOk G W' → W'.mem = ms → CStp W W' → Q (.bl c) W'.H)
theorem eq_own {X : Cx} {k : Nat} {T : Str → Option Den} (hT : EqTab X k T) (hr : Room k X.A) : OpR X (compareOp .Eq) (rEqO (gx X) T) := by
  intro pins s σ H x y v u Q I rx ry h
  obtain ⟨W, n, a, C, f, m, b, c, rfl, rfl, at0, at1, hf, ms, hv, q⟩ := h
  cases rx
  cases ry
  obtain ⟨Ca, dx, l, g1, g2⟩ := at0.ins
  obtain ⟨Cb, dy, l', g3, g4⟩ := at1.ins
  rw [g1] at g3; cases g3
  obtain ⟨Ca', fa, k1, k2, k3, F⟩ := hT C f hf
  rw [show X.mg C = some (.ref Ca) from g1] at k1; cases k1
  obtain ⟨mA, J, _⟩ := ins_get I.hok g2
  obtain ⟨mB, J', _⟩ := ins_get I.hok g4
  obtain ⟨od, J, _⟩ := J.look
  obtain ⟨od', J', _⟩ := J'.look
  obtain ⟨m0, hF⟩ := I.fr
  have hH := at0.H
  subst hH
  show wpAny (model X.prog X.w) X.A (richCompare .Eq _ _) (EP X pins σ Q) X.xe s
  refine PySem.W.cmp_K (op := .Eq) (tb := .ref Ca) hr.units0 hF I.ok.mod.kin J J'.type (by simp [PySem.W.notFirst]) k2 k3 (wpAny_mono (F.run X.A ⟨hr, rfl⟩ pins s σ W [.ref a, .ref b] [.ref a, .ref b] [.ref n, .ref m] (fun v H' => v = .bl c ∧ Q (.bl c) H') _ I (.cons rfl (.cons rfl .nil)) at0.ok (.cons (.ref at0.rho) (.cons (.ref at1.rho) .nil)) (by
    rw [hv]
    intro v W' ok' hm' c' rp
    cases rp
    exact ⟨rfl, q W' ok' hm' c'⟩)) (fun v s' hv' => ?_) fun _ _ e => e)
  obtain ⟨z, H', I', rz, ez, hq⟩ := hv'
  subst ez
  obtain rfl : v = Value.bool c := rz
  exact ⟨.bl c, H', I', rfl, hq⟩
def rEqX (G : Gx) (T : Str → Option Den) : R2 := fun x y H Q => rEqD G.K x y H Q ∨ rEqO G T x y H Q
theorem op_eqX {X : Cx} {k : Nat} {T : Str → Option Den} (hT : EqTab X k T) (hr : Room k X.A) (hu : X.A.units + 64 < cLine) : OpR X (compareOp .Eq) (rEqX (gx X) T) := OpR.or (op_eqD hu) (eq_own hT hr)
def dEqA (T : Str → Option Den) (da db : Ls → R Rd) : Ls → R Dv := fun s => (da s).bind fun x s => (db s).bind fun y s => match x.look s, y.look s with
  | some (.ref n), some (.ref m) => if insC s.mem[n]? = insC s.mem[m]? then (match (insC s.mem[n]?).bind T with
    | some f => (match f [.ref n, .ref m] s.mem with
      | .ok (.bl c) ms => .ok (.bl c) { s with mem := ms }
      | _ => .stuck)
    | none => .stuck) else .stuck
  | some a, some b => R.of (fEq a b) s
  | _, _ => .stuck
theorem sim_eqA {G : Gx} {wish : WX} {T : Str → Option Den} {ta tb : TE} {da db : Ls → R Rd} (ha : Sim G (rR G) wish ta da) (hb : Sim G (rR G) wish tb db) : Sim G (rV G) wish (tOp (rEqX G T) ta tb) (dEqA T da db) := fun B W σ s Q e p =>
  ha B W σ s _ e (Post.bind (rep := rR G) (rep2 := rV G) p fun x s1 v W1 _ e1 z1 r1 p1 =>
    hb B W1 σ s1 _ e1 (Post.bind (rep := rR G) (rep2 := rV G) p1 fun y s2 w W2 _ e2 z2 r2 p2 => by
      cases hl : x.look s2 with
      | none => simp only [hl] at p2; exact p2.elim
      | some a =>
      cases hl2 : y.look s2 with
      | none => simp only [hl, hl2] at p2; exact p2.elim
      | some b =>
        have hv := look_view e2 (r1.mono z2) hl
        have hw := look_view e2 r2 hl2
        simp only [hl, hl2] at p2
        split at p2
        · rename_i n m heq heq2
          cases heq; cases heq2
          obtain ⟨a, rfl, hr⟩ := hv.ref_rho
          obtain ⟨b, rfl, hr2⟩ := hw.ref_rho
          split at p2
          · rename_i hsame
            split at p2
            · rename_i f hf
              obtain ⟨C, hC, hT⟩ := bind1 hf
              obtain ⟨fs, hm⟩ := insC_some hC
              rw [hC] at hsame
              obtain ⟨fs2, hm2⟩ := insC_some hsame.symm
              split at p2
              · rename_i c ms hfr
                rw [e2.mem] at hm hm2 hfr
                exact .inr ⟨W2, n, a, C, f, m, b, c, rfl, rfl, ⟨rfl, e2.wok, hr, fs, hm⟩, ⟨rfl, e2.wok, hr2, fs2, hm2⟩, hT, ms, hfr, fun W' ok' hm' c' => by
                  obtain ⟨e', z'⟩ := e2.call ok' hm' c'
                  exact p2 (.bl c) { W' with tmp := W2.tmp } e' z' (.bl c)⟩
              · exact p2.elim
            · exact p2.elim
          · exact p2.elim
        · rename_i a' b' hne heq heq2
          cases heq; cases heq2
          obtain ⟨c, hc, p3⟩ := Post.of p2
          exact .inl (pure_eq W2 v w _ _ Q c e2.wok hv hw hc fun u H' g rp => Post.fresh p3 e2 g rp)
        · rename_i hh
          exact (hh _ _ rfl rfl).elim))
section
variable {X : Cx} {wish : WX} {k : Nat} {T : Str → Option Den} {a b : Expr} {ta tb : TE} {da db : Ls → R Rd} {pos : Pos}
theorem de_eqA (hT : EqTab X k T) (hr : Room k X.A) (hu : X.A.units + 64 < cLine) (ha : DR X wish a ta da) (hb : DR X wish b tb db) (hm : behindInMarks .Eq b = false := by with_unfolding_all rfl) : DE X wish (.Compare a [.Eq] [b] pos) (tOp (rEqX (gx X) T) ta tb) (dEqA T da db) :=
  ⟨pe_cmpR (op_eqX hT hr hu) ha.pe hb.pe hm, sim_eqA ha.sim hb.sim⟩
end
end DD

/-! D15: own __iter__ that gives iter(self.F); list(o); for x in o -/
namespace DD
open PySem L2
open PyProof.Rows hiding St

/-- a call of an own __iter__ that gives an iterator over the list in the field F -/
structure FnI (X : Cx) (k : Nat) (Ca f : Addr) (F : Str) : Prop where
  run : ∀ (A1 : Around), Sub X k A1 → ∀ (pins : List (Addr × Obj)) (s : Shared) (σ : L2.St) (H : Hp) (a dx ls : Addr) (l : List (Str × V)) (zs : List V) (Q : Value → Shared → Prop) (E : Value → Shared → Prop), Inv X pins σ H s → H a = some (.ins Ca dx l) → l.lookup F = some (.ref ls) → SqL X.K H ls zs →
    (∀ it s', s.heap.objs.size ≤ it → Inv X pins σ H s' → s'.heap.get? it = some (GNX.itObj ls 0) → FpOk X pins H it → Q (.ref it) s') → wpAny (model X.prog X.w) A1 (call (.ref f) [.ref a]) Q E s
theorem FnI.mono {X : Cx} {k m : Nat} {Ca f : Addr} {F : Str} (h : FnI X k Ca f F) (hk : k ≤ m) : FnI X m Ca f F := ⟨fun A1 sb => h.run A1 (sb.mono hk)⟩
theorem fnI_of {X : Cx} {k : Nat} {Ca f : Addr} {F x qual : Str} {params : Arguments} {bd : List Stmt} {scope : Scope} {kws : List (Str × V)} {fd : FuncData} {N : List Str} {p0 : Str} (U : FunD X.K x qual params bd scope [] kws f fd) (S : FnScope N [p0] scope) (c : Cls X.K Ca) (na : NoAttr X.K Ca F) (hN : N[0]? = some p0)
    (hb : Binds X.K fd [p0] [])
    (body : ∀ (cdv : Value) (A : Around) (outer : List Env) (s : Shared) (H : Hp) (E : XK), PSs (cxOf CX0 X.prog X.w X.K X.mg X.base N qual scope f cdv A outer s H E) bd (tRet (tCB (ItX.rIterN X.K s.heap.objs.size) (tCons (tFld X.K (tVar 0) F) tNil)))) : FnI X (k + 1) Ca f F := ⟨fun A1 sb pins s σ H a dx ls l zs Q E I ha hl hz h => by
  obtain ⟨oc, od, dV, kV, doc, pm, an, cdv, ct, osl, rfl, lk, hcd, _, _⟩ := U.ex
  have r2 : Vals [V.ref a] [Value.ref a] := .cons rfl .nil
  have hN1 : (L2.start N [V.ref a])[0]? = some (some (.ref a)) := by
    unfold L2.start
    simp
  refine wpAny_call (codeAny_mono (LamX.run_ofS (CX := CX0) (Q := fun v H' => ∃ it, v = V.ref it ∧ H it = none ∧ s.heap.objs.size ≤ it ∧ H' = upd H it (ItO ls it 0)) (E := E0) lk hcd S sb.room (env_at sb I) (by
    have := hb s [.ref a] I.kIn (by simp)
    simpa using this) r2 rfl fun hr => ⟨_, body cdv A1 X.stack s H E0, ?_⟩) fun r s' hq => ?_)
  · show tRet _ _ _ _
    refine ⟨.ref a, hN1, ⟨a, Ca, dx, l, .ref ls, rfl, ha, c, na, hl, ?_⟩⟩
    exact ⟨ls, zs, rfl, hz, fun it hit hn => ⟨it, rfl, hit, hn, rfl⟩⟩
  · cases r with
    | error e => exact hq.elim
    | ok fl =>
      cases fl with
      | next => exact False.elim hq
      | brk => exact False.elim hq
      | cont => exact False.elim hq
      | ret u =>
        obtain ⟨v, H', I', rv, it, rfl, hit, hn, rfl⟩ := I.after hq
        cases rv
        have eo := itO_get I' upd_same
        have up : (upd H it (ItO ls it 0)) it = some (.ext fun h => h.get? it = some (GNX.itObj ls 0)) := upd_same
        have I2 := ItX.inv_drop I' up
        rw [ItX.dropH_upd hit] at I2
        exact h it s' hn I2 eo (I.fpOk hn hit)⟩

/-! ### the list's loop -/
theorem fill_loop {X : Cx} {pins : List (Addr × Obj)} {σ : L2.St} {A1 : Around} {R : Result → Shared → Prop} {it ls S : Addr} {zs : List V} {H : Hp} (hh : A1.handled = none) (neS : S ≠ it) (hs' : ∀ xs, SqL X.K (upd H S (.lst xs)) ls zs) (hR : ∀ s, Inv X pins σ (upd H S (.lst zs)) s → R (.ok (.ret .none)) s) :
    ∀ (k i : Nat) (s : Shared), zs.length - i = k → i ≤ zs.length → Inv X pins σ (upd H S (.lst (zs.take i))) s → s.heap.IsListIter it ls i → FpOk X pins (upd H S (.lst (zs.take i))) it →
      codeAny (model X.prog X.w) A1 (.builtin "list.extend.loop" ⟨[.ref S, .ref it, .none], []⟩) R s := by
  intro k
  induction k with
  | zero =>
    intro i s hk hi I isit hf
    have hi' : i = zs.length := by omega
    refine codeAny_builtin PySem.F.entry_extend_loop ?_
    rw [Around.under_plainId PySem.F.plain_extend_loop _]
    show wpAny _ A1.in1 (pyNext (.ref it) >>= _) _ _ s
    obtain ⟨its, rv, pl, hz⟩ := I.list (hs' _)
    obtain ⟨f0, f1, f2, f3, f4, f5⟩ := hf
    refine wpAny_bind (wpAny_pyNext_list_end (by simpa using hh) isit pl.isList (by rw [hi', rv.length]; simp) fun h' he' => ?_)
    have I' := I.turned (t' := s.toks) (h' := h') (fun b o hb e => he' b o hb e) f0 f1 f3 f4 f5
    rw [hi', List.take_length] at I'
    exact wpAny_pure (hR _ I')
  | succ k ih =>
    intro i s hk hi I isit hf
    have hlt : i < zs.length := by omega
    refine codeAny_builtin PySem.F.entry_extend_loop ?_
    rw [Around.under_plainId PySem.F.plain_extend_loop _]
    show wpAny _ A1.in1 (pyNext (.ref it) >>= _) _ _ s
    obtain ⟨its, rv, pl, hz⟩ := I.list (hs' _)
    obtain ⟨u, hu, ru⟩ := rv.get (i := i) (x := zs[i]) (by simp [hlt])
    obtain ⟨f0, f1, f2, f3, f4, f5⟩ := hf
    refine wpAny_bind (wpAny_pyNext_list_item isit pl.isList (x := u) (by simpa using hu) fun h' hit' hs'' => ?_)
    have I' := I.turned (t' := s.toks) (h' := h') (fun b o hb e => hs''.extBut b o hb e) f0 f1 f3 f4 f5
    obtain ⟨hz1, its1, n1, r1, hl1, e1⟩ := I'.lstM upd_same
    show wpAny _ A1.in1 (updateSeq S (·.push u) >>= _) _ _ _
    have hlen : (zs.take i).length = i := by rw [List.length_take]; omega
    have hzl : zs.length ≤ sizeLine := hz
    refine wpAny_bind (wpAny_updateSeq e1 rfl (wpAny_pure ⟨plainId_quiet PySem.F.plain_extend_loop _, ?_⟩) (by rw [List.size_toArray]; omega) (by show (its1.toArray.push u).size ≤ sizeLine + 1; rw [Array.size_push, List.size_toArray]; omega))
    have et : zs.take i ++ [zs[i]] = zs.take (i + 1) := by rw [List.take_succ, List.getElem?_eq_getElem hlt]; rfl
    have I2 := I'.lset (f := (·.push u)) (its' := its1 ++ [u]) (ys := zs.take (i + 1)) (t' := s.toks) upd_same e1 (by simp) (by rw [← et]; exact r1.append (.cons ru .nil)) (by rw [List.length_take]; omega)
    rw [upd_upd] at I2
    refine ih (i + 1) _ (by omega) hlt I2 ?_ ⟨?_, f1, f2, f3, f4, f5⟩
    · obtain ⟨o', q1, q2⟩ := hit'
      exact ⟨o', (Heap.get?_update_other _ _ neS).trans q1, q2⟩
    · rw [upd_ne (Ne.symm neS)] at f0 ⊢
      exact f0

/-! ### list(o) -/
/-- classes with such an __iter__: the field -/
def IterTab (X : Cx) (k : Nat) (T : Str → Option Str) : Prop := ∀ C F, T C = some F → ∃ Ca fi, X.mg C = some (.ref Ca) ∧ PySem.W.findIn X.K (.ref Ca) "__iter__" = some (some (.ref fi)) ∧ PySem.W.isFn X.K (.ref fi) = true ∧ FnI X k Ca fi F
theorem iter_own {X : Cx} {k : Nat} {T : Str → Option Str} (hT : IterTab X k T) {A1 : Around} (sb : Sub X k A1) {pins : List (Addr × Obj)} {s : Shared} {σ : L2.St} {H : Hp} {a Ca dx ls : Addr} {C F : Str} {l : List (Str × V)} {zs : List V} {Q E : Value → Shared → Prop} (I : Inv X pins σ H s) (hC : X.mg C = some (.ref Ca)) (hF : T C = some F) (ha : H a = some (.ins Ca dx l)) (hl : l.lookup F = some (.ref ls)) (hz : SqL X.K H ls zs)
    (h : ∀ it s', s.heap.objs.size ≤ it → Inv X pins σ H s' → s'.heap.get? it = some (GNX.itObj ls 0) → FpOk X pins H it → Q (.ref it) s') : wpAny (model X.prog X.w) A1 (pyIter (.ref a)) Q E s := by
  obtain ⟨Ca', fi, k1, k2, k3, D⟩ := hT C F hF
  rw [hC] at k1; cases k1
  obtain ⟨mA, J, _⟩ := ins_get I.hok ha
  obtain ⟨od, J, _⟩ := J.look
  obtain ⟨m0, fr⟩ := I.fr
  refine PySem.W.owit_iter fr I.ok.mod.kin J k2 k3 (D.run A1 sb pins s σ H a dx ls l zs _ E I ha hl hz fun it s' hit I' ho hf => ?_)
  have ty : s'.TypeIs (.ref it) "list_iterator" := ⟨_, ho, rfl⟩
  have nx : typeLookup (.type "list_iterator") "__next__" = pure (some (.builtin "list_iterator.__next__")) := by rw [typeLookup_type, builtinLookup_eq_fast]; kernel_rfl
  unfold PySem.W.OwitIt
  exact wpAny_specialOf ty nx (h it s' hit I' ho hf)
def rListO (G : Gx) (TI : Str → Option Str) (TL : Str → Option Den) : List V → Hp → VK → Prop := fun xs H Q => ∃ W n a C fs F ds f j, xs = [V.ref a] ∧ At G W H n a C ∧ W.mem[n]? = some (.ins C fs) ∧ TI C = some F ∧ fs.lookup F = some (.lst ds) ∧ TL C = some f ∧ f [.ref n] W.mem = .ok (.int j) W.mem ∧ 0 ≤ j ∧ j ≤ 16777216 ∧
  ∀ p W' vs, W.H p = none → WOk G W' → W'.mem = W.mem → CStp (W.push p []) W' → RepL G W' vs ds → Q (.ref p) (upd W'.H p (.lst vs))
theorem list_own {X : Cx} {k : Nat} {TI : Str → Option Str} {TL : Str → Option Den} (hI : IterTab X k TI) (hL : OwnTab X k "__len__" TL) (hr : Room (k + 3) X.A) : CallR X (.type "list") (rListO (gx X) TI TL) := by
  intro pins s σ H xs us Q I rv h
  obtain ⟨W, n, a, C, fs, F, ds, f, j, rfl, at0, hm, hF, hfd, hf, hden, j0, j1, q⟩ := h
  obtain ⟨u, rfl, ru⟩ := rv.one
  cases ru
  have sb2 : Sub X (k + 1) X.A.in1.in1 := Sub.in1 (Sub.in1 (⟨hr, rfl⟩ : Sub X (k + 3) X.A))
  have sb : Sub X k X.A.in1.in1.in1 := Sub.in1 sb2
  have hH := at0.H
  subst hH
  refine callType_codes (Q₁ := fun ob sN => ob = .ref s.heap.objs.size ∧ sN = { s with heap := s.heap.push { cls := .type "list", data := .seq #[] } }) PySem.F.called_list (PySem.F.typeCall_list_1 _) PySem.F.entry_list_init (code_list_new _ ⟨rfl, rfl⟩) fun ob sN hN => ?_
  obtain ⟨rfl, rfl⟩ := hN
  generalize hS : s.heap.objs.size = S
  have gS : (s.heap.push { cls := .type "list", data := .seq #[] }).get? S = some { cls := .type "list", data := .seq #[] } := by
    rw [← hS]; exact Heap.get?_push_size _ rfl
  refine ⟨⟨_, gS, rfl⟩, PySem.F.args_list_init_2 _ _, ?_⟩
  have fr : W.H S = none := by rw [← hS]; exact I.hok.fresh (Nat.le_refl _)
  have I1 : Inv X pins σ (upd W.H S (.lst [])) { s with heap := s.heap.push { cls := .type "list", data := .seq #[] } } := by
    rw [← hS]; exact I.lnew (its := []) (t' := s.toks) .nil (Nat.zero_le _)
  show wpAny _ _ (do let old ← Builtin.List.listItems (.ref S); Builtin.List.listUpdate (.ref S) (fun _ => #[]); letGo old.toList.reverse; Builtin.List.listExtendWith (.ref S) (.ref a) .none) _ _ _
  refine wpAny_bind ?_
  unfold Builtin.List.listItems
  refine wpAny_bind (wpAny_seqItems gS rfl (wpAny_pure ?_))
  show wpAny _ _ (updateSeq S (fun _ => #[]) >>= fun _ => letGo (#[] : Array Value).toList.reverse >>= fun _ => Builtin.List.listExtendWith (.ref S) (.ref a) .none) _ _ _
  refine wpAny_bind (wpAny_updateSeq gS rfl ?_)
  have I2 := I1.lset (f := fun _ => #[]) (its := []) (its' := []) (ys := []) (t' := s.toks) upd_same gS rfl .nil (Nat.zero_le _)
  rw [upd_upd] at I2
  refine wpAny_bind (wpAny_letGo ?_)
  generalize ({ s with heap := _ } : Shared) = s2 at I2 ⊢
  have ok2 : WOk (gx X) (W.push S []) := at0.ok.push fr
  obtain ⟨Ca, dx, l, g1, g2, g3⟩ := ok2.cells n _ a hm at0.rho
  obtain ⟨v, hv, rv⟩ := (RepF.lookup (f := F) g3).1 _ hfd
  have rv' := rv
  cases rv' with
  | @lst ls zs _ z1 z2 z3 =>
  have gC : X.mg C = some (.ref Ca) := g1
  have ha2 : upd W.H S (.lst []) a = some (.ins Ca dx l) := g2
  have neS : S ≠ a := fun z => by rw [z, upd_same] at ha2; cases ha2
  have neL : ls ≠ S := fun z => z2 (.inr z)
  have hz : SqL X.K (upd W.H S (.lst [])) ls zs := SqL.of z1
  obtain ⟨mA, J, _⟩ := ins_get I2.hok ha2
  obtain ⟨od, J, _⟩ := J.look
  unfold Builtin.List.listExtendWith
  refine wpAny_bind (J.type.here ?_)
  have c1 : Builtin.List.listSameRef (.ref S) (.ref a) = false := by simp [Builtin.List.listSameRef, neS]
  have c2 : (Value.ref Ca == Value.type "list") = false := rfl
  have c3 : (Value.ref Ca == Value.type "tuple") = false := rfl
  simp only [c1, c2, c3, Bool.or_false, Bool.false_eq_true, if_false]
  refine wpAny_bind (iter_own (Q := fun itv s' => wpAny _ _ _ _ _ s') hI (sb2.mono (Nat.le_succ _)) I2 gC hF ha2 hv hz fun it s3 hit I3 ho hfp => ?_)
  have isit : s3.heap.IsListIter it ls 0 := ⟨_, ho, rfl, rfl⟩
  obtain ⟨Ca', fa, k1, k2, k3, FL⟩ := hL C f hf
  rw [gC] at k1; cases k1
  have I4 := I3.pinned (fp := [it]) (fun b hb => by obtain rfl := List.mem_singleton.mp hb; exact hfp) (fun b hb => by obtain rfl := List.mem_singleton.mp hb; exact ⟨_, ho, fun v z => by cases z⟩)
  obtain ⟨mA3, J3, _⟩ := ins_get I3.hok ha2
  obtain ⟨od3, J3, _⟩ := J3.look
  obtain ⟨m0, fr0⟩ := I3.fr
  refine wpAny_bind (wpAny_holding ?_)
  unfold Builtin.List.listLengthHint
  refine wpAny_bind (wpAny_bind (J3.type.here ((PySem.W.looks_findIn I3.kIn k2).here ?_)))
  refine PySem.W.KFB.if_not rfl ?_
  refine wpAny_bind (wpAny_rule ?_)
  refine wpAny_bind (wpAny_attempt (PySem.W.len_K fr0 I3.ok.mod.kin J3 k2 k3 (wpAny_mono (FL.run _ sb _ s3 σ (W.push S []) [.ref a] [.ref a] [.ref n] (fun v H' => v = .int j ∧ ∃ W', WOk (gx X) W' ∧ W'.mem = W.mem ∧ CStp (W.push S []) W' ∧ W'.H = H') _ I4 (.cons rfl .nil) ok2 (.cons (.ref at0.rho) .nil) (by
    show wantD _ _ _ _ _ (f [.ref n] W.mem)
    rw [hden]
    intro v W' ok' hm' c' rp
    cases rp
    exact ⟨rfl, W', ok', hm', c', rfl⟩)) (fun v s4 hv' => ?_) fun _ _ e => False.elim e)))
  obtain ⟨z, H', I5, rz, ez, W', ok', hm', c', rfl⟩ := hv'
  subst ez
  obtain ⟨t, rfl⟩ := rz
  refine ⟨⟨j0, by omega⟩, ?_⟩
  have I6 := I5.unpinned
  have pin := I5.pin (it, GNX.itObj ls 0) (List.mem_append_right _ (List.mem_append_right _ (by
    unfold pinsAt
    simp [ho])))
  have p0 : W'.H it = none := pin.2.1
  have hfp2 : FpOk X pins W'.H it := ⟨p0, hfp.2⟩
  have isit2 := isit
  obtain ⟨o, q1, q2⟩ := isit
  rw [ho] at q1
  cases q1
  have isit6 : ({ s4 with toks := s4.toks + 1 } : Shared).heap.IsListIter it ls 0 := ⟨_, pin.1, q2⟩
  refine wpAny_bind (m := asInt? (.int j s4.toks)) (wpAny_pure ?_)
  dsimp only
  refine PySem.W.KFB.if_not (by unfold Builtin.List.listTooLong; exact decide_eq_false (by rw [sizeLine_eq]; omega)) ?_
  refine wpAny_pure ?_
  have keepS : W'.H S = some (.lst []) := c'.keep S _ upd_same fun z => (by
    have hh := at0.ok.hotr S z
    obtain ⟨o, e⟩ := at0.ok.hotd S hh
    rw [fr] at e; cases e)
  have sameS : upd W'.H S (.lst []) = W'.H := by
    funext b
    by_cases hb : b = S
    · rw [hb, upd_same, keepS]
    · rw [upd_ne hb]
  have keepL : W'.H ls = some (.lst zs) := (c'.fz ok2).cold ls _ z2 z1
  have r' : RepL (gx X) W' zs ds := RepX.mono (c'.fz ok2) z3
  have neI : S ≠ it := fun z => by rw [← z, keepS] at p0; cases p0
  have seq : ∀ xs, SqL X.K (upd W'.H S (.lst xs)) ls zs := fun xs => SqL.of (by rw [upd_ne neL]; exact keepL)
  have calm : X.A.in1.handled = none := by simp [hr.hd]
  have fin : ∀ s5, Inv X pins σ W'.H s5 → s5.heap.IsListIter it ls 0 → codeAny (model X.prog X.w) X.A.in1 (.builtin "list.extend.loop" ⟨[.ref S, .ref it, .none], []⟩) (wants (fun r s₂ => r = .none ∧ EP X pins σ Q (.ref S) s₂) X.xe) s5 := fun s5 I7 is7 =>
    fill_loop (H := W'.H) calm neI seq (fun s6 I8 => ⟨rfl, .ref S, _, I8, rfl, q S W' zs fr ok' hm' c' r'⟩) zs.length 0 s5 (by simp) (Nat.zero_le _) (by rw [List.take_zero, sameS]; exact I7) is7 (by rw [List.take_zero, sameS]; exact hfp2)
  have I7 : Inv X pins σ W'.H { s4 with toks := s4.toks + 1 } := I6.tok _
  refine wpAny_ite_split (fun _ => ?_) (fun _ => wpAny_pure ⟨plainId_quiet PySem.F.plain_extend_loop _, fin _ I7 isit6⟩)
  refine wpAny_bind (wpAny_rule ?_)
  refine wpAny_bind ?_
  show wpAny _ _ (updateSeq S (·.push .none) >>= fun _ => updateSeq S (·.pop)) _ _ _
  obtain ⟨_, its, n7, r7, hl7, e7⟩ := I7.lstM keepS
  cases r7
  refine wpAny_bind (wpAny_updateSeq e7 rfl ?_)
  have I8 := I7.lset (f := (·.push Value.none)) (its' := [Value.none]) (ys := [.non]) (t' := s4.toks + 1) keepS e7 (by simp) (.cons rfl .nil) (by rw [List.length_singleton, sizeLine_eq]; decide)
  obtain ⟨_, its8, n8, r8, hl8, e8⟩ := I8.lstM upd_same
  obtain ⟨u8, rfl, ru8⟩ := r8.one
  refine wpAny_updateSeq e8 rfl ?_ (by show 1 ≤ sizeLine; rw [sizeLine_eq]; decide) (by show 0 ≤ sizeLine + 1; exact Nat.zero_le _)
  have I9 := I8.lset (f := (·.pop)) (its := [u8]) (its' := []) (ys := []) (t' := s4.toks + 1) upd_same e8 (by rfl) .nil (Nat.zero_le _)
  rw [upd_upd, sameS] at I9
  obtain ⟨oI, i1, i2⟩ := isit6
  exact wpAny_pure ⟨plainId_quiet PySem.F.plain_extend_loop _, fin _ I9 ⟨oI, (Heap.get?_update_other _ _ neI).trans ((Heap.get?_update_other _ _ neI).trans i1), i2⟩⟩

def rListX (G : Gx) (TI : Str → Option Str) (TL : Str → Option Den) : List V → Hp → VK → Prop := fun xs H Q => rListOf G.K xs H Q ∨ rListO G TI TL xs H Q
/-- what list(o) holds -/
def ownList (TI : Str → Option Str) (m : List Ob) (n : Nat) : Option (List Dv) := match m[n]? with
  | some (.ins C fs) => (TI C).bind fun F => match fs.lookup F with
    | some (.lst ds) => some ds
    | _ => none
  | _ => none
/-- its __len__ gives a number and changes nothing -/
def lenSame (TL : Str → Option Den) (m : List Ob) (n : Nat) (k : Nat) : Prop := ∃ f, (insC m[n]?).bind TL = some f ∧ f [.ref n] m = .ok (.int k) m
open Classical in
noncomputable def dListA (TI : Str → Option Str) (TL : Str → Option Den) (da : Ls → R (List Rd)) : Ls → R Nat := fun s => (da s).bind fun rs s => match lookAll rs s with
  | some [.ref n] => (match ownList TI s.mem n with
    | some ds => if ds.length ≤ 16777216 ∧ lenSame TL s.mem n ds.length then dNew s ds else .stuck
    | none => .stuck)
  | some xs => (match fList xs with
    | some ds => dNew s ds
    | none => .stuck)
  | none => .stuck
theorem CStp.push {B W : Wd} {p : Addr} {xs : List V} (c : CStp B W) (hp : W.H p = none) : CStp B (W.push p xs) := by
  have g : Same W.H (upd W.H p (.lst xs)) := Same.upd hp
  refine ⟨fun a o h n => g _ _ (c.keep a o h n), fun a ys h => g _ _ (c.tups a ys h), fun a o u h => g _ _ (c.frzs a o u h), c.pre, fun a h => .inl (c.hotB a h), fun a h => ?_, c.rhoN, fun a o h => ?_⟩
  · rcases h with h | h
    · exact c.hotN a h
    · subst h
      refine .inr ?_
      cases q : B.H a with
      | none => rfl
      | some o => obtain ⟨o', q'⟩ := c.dom a o q; rw [hp] at q'; cases q'
  · obtain ⟨o', q⟩ := c.dom a o h; exact ⟨o', g _ _ q⟩
theorem sim_listA {G : Gx} {wish : WX} {TI : Str → Option Str} {TL : Str → Option Den} {ta : TA} {da : Ls → R (List Rd)} (ha : Sim G (rRs G) wish ta da) : Sim G (rN G) wish (tCB (rListX G TI TL) ta) (dListA TI TL da) := fun B W σ s Q e p =>
  ha B W σ s _ e (Post.bind (rep := rRs G) (rep2 := rN G) p fun rs s1 vs W1 _ e1 z1 r1 p1 => by
    cases hl : lookAll rs s1 with
    | none => simp only [hl] at p1; exact p1.elim
    | some xs =>
      have hv := lookAll_view e1 r1 hl
      simp only [hl] at p1
      split at p1
      · rename_i n heq
        cases heq
        obtain ⟨v, rfl, hv1⟩ := hv.one
        obtain ⟨a, rfl, hr⟩ := hv1.ref_rho
        split at p1
        · rename_i ds hds
          split at p1
          · rename_i hc
            obtain ⟨hz, f, hf, hden⟩ := hc
            obtain ⟨C, hC, hT⟩ := bind1 hf
            obtain ⟨fs, hm⟩ := insC_some hC
            unfold ownList at hds
            rw [hm] at hds
            simp only at hds
            obtain ⟨F, hF, hds⟩ := bind1 hds
            split at hds
            · rename_i ds' hlk
              cases hds
              have hmem := e1.mem
              rw [hmem] at hm hden
              refine .inr ⟨W1, n, a, C, fs, F, ds, f, (ds.length : Nat), rfl, ⟨rfl, e1.wok, hr, fs, hm⟩, hm, hF, hlk, hT, hden, Int.natCast_nonneg _, Int.ofNat_le.mpr hz, fun q W' vs' hq ok' hm' c' rp => ?_⟩
              obtain ⟨e2, z2, ht2⟩ := e1.pushW (ds := []) hq .nil
              obtain ⟨e3, z3⟩ := e2.call ok' hm' c'
              have h3 : ({ s1.push [] with mem := W1.mem } : Ls) = s1.push [] := by rw [← hmem]; rfl
              rw [h3] at e3
              have ht : (s1.push []).tmp[s1.tmp.length]? = some [] := by unfold Ls.push; simp
              have ht3 : ({ W' with tmp := (W1.push q []).tmp } : Wd).tmp[s1.tmp.length]? = some q := ht2
              obtain ⟨e4, z4⟩ := e3.mutTmp ht ht3 (xs' := vs') (ds' := ds) rp
              have es : ({ s1.push [] with tmp := (s1.push []).tmp.set s1.tmp.length ds } : Ls) = s1.push ds := by
                unfold Ls.push
                simp
              rw [es] at e4
              exact p1 (.ref q) _ e4 ((z2.trans z3).trans z4) ⟨q, ht2, rfl⟩
            · cases hds
          · exact p1.elim
        · exact p1.elim
      · rename_i xs' hne heq
        cases heq
        split at p1
        · rename_i ds hf
          exact .inl (pureN_list W1 vs _ Q ds e1.wok hv hf fun q ys hq rp => Post.push p1 e1 hq rp)
        · exact p1.elim
      · rename_i heq; cases heq)
theorem dn_list {X : Cx} {wish : WX} {k : Nat} {TI : Str → Option Str} {TL : Str → Option Den} {e : Expr} {ta : TA} {da : Ls → R (List Rd)} {p pos : Pos} (hI : IterTab X k TI) (hL : OwnTab X k "__len__" TL) (hr : Room (k + 3) X.A) (hg : Gl X "list") (hm : X.mg "list" = none) (hv : bootBuiltins "list" = some (.type "list")) (ha : DAr X wish [e] ta da)
    (he : starEach [e] X.env = (false, eval e X.env) :: starEach [] X.env := by rfl) (hpl : (backTo pos (starEach [] X.env)).any (·.1) = false := by rfl) : DN X wish (.Call (.Name "list" p) [e] [] pos) (tCB (rListX (gx X) TI TL) ta) (dListA TI TL da) :=
  ⟨pe_callTy (CallR.or call_list_of (list_own hI hL hr)) hg hm hv ha.pa (by decide) (by decide) he hpl, sim_listA ha.sim⟩

/-! ### for x in o -/
theorem pi_own {X : Cx} {k : Nat} {T : Str → Option Str} {tg l : Expr} {tl : TE} (hT : IterTab X k T) (hr : Room k X.A) (hl : PE X l tl) : PI X tg l (fun σ H R => tl σ H fun x H1 => ∃ a C Ca dx fl F ls zs, x = V.ref a ∧ X.mg C = some (.ref Ca) ∧ T C = some F ∧ H1 a = some (.ins Ca dx fl) ∧ fl.lookup F = some (.ref ls) ∧ SqL X.K H1 ls zs ∧ R (Itl X.K ls) H1) := by
  refine ⟨fun pins s σ H R I h => ?_⟩
  refine thn (hl.run pins s σ H _ I h) fun v s1 ⟨x, H1, I1, r1, a, C, Ca, dx, fl, F, ls, zs, ex, hC, hF, ha, hlk, hz, q⟩ => ?_
  subst ex
  cases r1
  refine iter_own hT ⟨hr, rfl⟩ I1 hC hF ha hlk hz fun it s' hit I' ho hf => ?_
  exact ⟨it, [it], _, _, H1, rfl, I', turn_list ls it, ⟨_, ho, rfl, rfl⟩, fun b hb => by obtain rfl := List.mem_singleton.mp hb; exact hf, q⟩
end DD

/-! D16: types and classes by name, isinstance, static methods, class constants, for over own objects; what is never reached -/
namespace DD
open PySem L2 ClX
open PyProof.Rows hiding St

section
variable {X : Cx} {wish : WX}
theorem de_ty {x : Str} {T : String} {pos : Pos} (hg : Gl X x) (hm : X.mg x = none) (hv : bootBuiltins x = some (.type T)) (hn : x ≠ "__name__" := by decide) (hd : (x == ("__debug__" : Str)) = false := by decide) : DE X wish (.Name x pos) (tC (.ty T)) (dC (.ty T)) :=
  ⟨pe_bltn hg hm hv rfl hn hd, sim_c fun _ => .ty T⟩
theorem de_cls {x : Str} {a : Addr} {pos : Pos} (hg : Gl X x) (hm : X.mg x = some (.ref a)) (hd : (x == ("__debug__" : Str)) = false := by decide) : DE X wish (.Name x pos) (tC (.ref a)) (dC (.cls x)) :=
  ⟨pe_glob hg hm rfl hd, sim_c fun _ => .cls hm⟩
/-- never reached -/
def dNever : Ls → Fl := fun _ => .stuck
theorem ds_never {st : Stmt} : DS X wish st tNever dNever := ⟨ps_never, fun _ _ _ _ _ _ p => p.elim⟩
theorem db_never {st : List Stmt} : DB X wish st tNever dNever := ⟨pss_never, fun _ _ _ _ _ _ p => p.elim⟩
end

/-! ### isinstance -/
inductive Tg where
  | ty (n : String)
  | cls (x : Str)
  deriving DecidableEq
def tagD (m : List Ob) : Dv → Option Tg
  | .non => some (.ty "NoneType")
  | .bl _ => some (.ty "bool")
  | .int _ => some (.ty "int")
  | .str _ => some (.ty "str")
  | .tup _ => some (.ty "tuple")
  | .lst _ => some (.ty "list")
  | .scr _ => some (.ty "list")
  | .ref n => match m[n]? with
    | some (.ins C _) => some (.cls C)
    | some (.dct _) => some (.ty "dict")
    | _ => none
  | _ => none
def tagC : Dv → Option Tg
  | .ty n => some (.ty n)
  | .cls x => some (.cls x)
  | _ => none
def tagV (G : Gx) : Tg → Value → Prop
  | .ty n, v => v = .type n
  | .cls x, v => ∃ a, G.mg x = some (.ref a) ∧ v = .ref a
/-- the table tells which is an instance of which -/
structure IsTab (G : Gx) (tb : Tg → Tg → Option Bool) : Prop where
  one : ∀ t u b tv uv, tb t u = some b → tagV G t tv → tagV G u uv → PySem.W.kitOne G.K tv uv = some b
  ins : ∀ C u b Ca, tb (.cls C) u = some b → G.mg C = some (.ref Ca) → Cls G.K Ca ∧ PySem.W.findIn G.K (.ref Ca) "__class__" = some (some (.builtin "object.__class__")) ∧
    PySem.W.specialIn G.K (.builtin "object.__class__") "__get__" = some (some (.builtin "getset_descriptor.__get__")) ∧ PySem.W.takesIn G.K (.builtin "object.__class__") = some true ∧ PySem.W.mroIn G.K Ca (.type "object") = some true
theorem tagD_rep {G : Gx} {W : Wd} (ok : WOk G W) {tb : Tg → Tg → Option Bool} (T : IsTab G tb) {v : V} {x : Dv} {t u : Tg} {b : Bool} (r : View G W v x) (h : tagD W.mem x = some t) (hb : tb t u = some b) : ∃ tv, tagV G t tv ∧ TyX G.K W.H v tv := by
  cases x <;> simp only [tagD] at h <;> first | (cases h; done) | skip
  · cases h; cases r; exact ⟨_, rfl, .base .non⟩
  · cases h; cases r; exact ⟨_, rfl, .base (.bl _)⟩
  · cases h; cases r; exact ⟨_, rfl, .base (.int _)⟩
  · cases h; cases r; exact ⟨_, rfl, .base (.str _)⟩
  · cases h
    cases r with
    | tup h1 h2 =>
      refine ⟨_, rfl, ?_⟩
      rcases h1 with (h1 | ⟨o, h1⟩) | ⟨o, its, n, h1, h3, _⟩
      · exact .base (.tup h1)
      · exact .fTuple h1
      · exact .kTuple h1 h3
  · cases h
    obtain ⟨a, xs, rfl, h1, h2⟩ := r
    exact ⟨_, rfl, .base (.lst h1)⟩
  · cases h
    cases r with
    | scr h1 =>
      rcases h1 with ⟨h1, _⟩ | ⟨o, h1⟩ | ⟨o, its, n, h1, h2, _⟩
      · exact ⟨_, rfl, .base (.lst h1)⟩
      · exact ⟨_, rfl, .base (.frz h1)⟩
      · exact ⟨_, rfl, .kList h1 h2⟩
  · rename_i n
    cases r with
    | ref hr =>
      cases hm : W.mem[n]? with
      | none => rw [hm] at h; cases h
      | some o =>
        rw [hm] at h
        cases o <;> simp only at h <;> first | (cases h; done) | skip
        · cases h
          obtain ⟨l, h1, _⟩ := ok.cells n _ _ hm hr
          exact ⟨_, rfl, .base (.dK h1)⟩
        · cases h
          obtain ⟨Ca, dx, l, h1, h2, _⟩ := ok.cells n _ _ hm hr
          obtain ⟨c1, c2, c3, c4, c5⟩ := T.ins _ u b Ca hb h1
          exact ⟨_, ⟨Ca, h1, rfl⟩, .base (.ins h2 c1 c2 c3 c4 c5)⟩
theorem tagC_rep {G : Gx} {W : Wd} {v : V} {x : Dv} {t : Tg} (r : View G W v x) (h : tagC x = some t) : ∃ tv, tagV G t tv ∧ ClsV v tv := by
  cases x <;> simp only [tagC] at h <;> first | (cases h; done) | skip
  · cases h
    cases r with
    | cls h1 => exact ⟨_, ⟨_, h1, rfl⟩, .own _⟩
  · cases h; cases r; exact ⟨_, rfl, .ty _⟩
/-- functions that look into the store -/
def PureCM (G : Gx) (r : List V → Hp → VK → Prop) (f : List Ob → List Dv → Option Dv) : Prop := ∀ (W : Wd) vs xs Q z, WOk G W → ViewL G W vs xs → f W.mem xs = some z → (∀ u H', Same W.H H' → RepX G W.hot W.rho H' false u z [] [] → Q u H') → r vs W.H Q
def dCM (f : List Ob → List Dv → Option Dv) (da : Ls → R (List Rd)) : Ls → R Dv := fun s => (da s).bind fun rs s => R.of ((lookAll rs s).bind (f s.mem)) s
theorem sim_CM {G : Gx} {wish : WX} {ta : TA} {da : Ls → R (List Rd)} {r : List V → Hp → VK → Prop} {f : List Ob → List Dv → Option Dv} (hp : PureCM G r f) (ha : Sim G (rRs G) wish ta da) : Sim G (rV G) wish (tCB r ta) (dCM f da) := fun B W σ s Q e p =>
  ha B W σ s _ e (Post.bind (rep := rRs G) (rep2 := rV G) p fun rs s1 vs W1 _ e1 z1 r1 p1 => by
    obtain ⟨c, hc, p2⟩ := Post.of p1
    obtain ⟨xs, h1, h2⟩ := bind1 hc
    rw [e1.mem] at h2
    exact hp W1 vs xs Q c e1.wok (lookAll_view e1 r1 h1) h2 fun u H' g rp => Post.fresh p2 e1 g rp)
def fIsi (tb : Tg → Tg → Option Bool) (m : List Ob) : List Dv → Option Dv
  | [x, c] => (tagD m x).bind fun t => (tagC c).bind fun u => (tb t u).map .bl
  | _ => none
theorem pure_isi {G : Gx} {tb : Tg → Tg → Option Bool} (T : IsTab G tb) : PureCM G (rIsi G.K) (fIsi tb) := by
  intro W vs xs Q z ok hv hf k
  unfold fIsi at hf
  split at hf
  · obtain ⟨v, w, rfl, r1, r2⟩ := hv.two
    obtain ⟨t, h1, hf⟩ := bind1 hf
    obtain ⟨u, h2, hf⟩ := bind1 hf
    obtain ⟨b, h3, rfl⟩ := Option.map_eq_some_iff.mp hf
    obtain ⟨tv, q1, q2⟩ := tagD_rep ok T r1 h1 h3
    obtain ⟨uv, q3, q4⟩ := tagC_rep r2 h2
    exact ⟨v, w, tv, uv, b, rfl, q4, q2, T.one _ _ _ _ _ h3 q1 q3, k _ _ (Same.refl _) (.bl b)⟩
  · cases hf
theorem de_isi {X : Cx} {wish : WX} {tb : Tg → Tg → Option Bool} {a c : Expr} {ta : TA} {da : Ls → R (List Rd)} {p pos : Pos} (T : IsTab (gx X) tb) (hg : Gl X "isinstance") (hm : X.mg "isinstance" = none) (hv : bootBuiltins "isinstance" = some (.builtin "isinstance")) (ha : DAr X wish [a, c] ta da)
    (he : starEach [a, c] X.env = (false, eval a X.env) :: starEach [c] X.env := by rfl) (hpl : (backTo pos (starEach [c] X.env)).any (·.1) = false := by rfl) : DE X wish (.Call (.Name "isinstance" p) [a, c] [] pos) (tCB (rIsi X.K) ta) (dCM (fIsi tb) da) :=
  ⟨pe_callB call_isi hg hm hv ha.pa (by decide) (by decide) he hpl, sim_CM (pure_isi T) ha.sim⟩
/-- the built-in types -/
def tyTab : Tg → Tg → Option Bool
  | .ty a, .ty b => if a ∈ ["NoneType", "bool", "int", "str", "tuple", "list"] ∧ b ∈ ["bool", "int", "str", "tuple", "list"] then some (a == b || (a == "bool" && b == "int")) else none
  | _, _ => none
theorem tyTab_ok {G : Gx} : IsTab G tyTab := by
  refine ⟨fun t u b tv uv h h1 h2 => ?_, fun C u b Ca h _ => by simp [tyTab] at h⟩
  cases t <;> cases u <;> simp only [tyTab] at h <;> first | (cases h; done) | skip
  rename_i a c
  split at h
  · rename_i hc
    cases h
    cases h1; cases h2
    have hk : ∀ a ∈ ["NoneType", "bool", "int", "str", "tuple", "list"], ∀ c ∈ ["bool", "int", "str", "tuple", "list"], kitB a c = some (a == c || (a == "bool" && c == "int")) := by decide +kernel
    exact kit_ty (hk a hc.1 c hc.2)
  · cases h

/-! ### static methods, class constants -/
/-- C.m is a static method: its def at g -/
structure SMet (K : PySem.W.Frag) (C : Addr) (mc : Value) (m : Str) (p g : Addr) : Prop where
  rd : CRead K C mc
  ty : PySem.W.typeIn K (.ref C) = some mc
  at_ : PySem.W.findCls K (.ref C) mc m = some (.get (.builtin "staticmethod.__get__") (.ref p) .none (.ref C))
  rc : ∃ rest, PySem.W.recIn K p "staticmethod" = some (.ref g :: rest)
  kp : PySem.W.keepIn K (.ref g) = true
section
variable {X : Cx} {wish : WX} {C p g : Addr} {mc : Value} {Cn m : Str} {f : Den} {apos pos np : Pos} {e : Expr} {es : List Expr} {t : TA} {da : Ls → R (List Dv)} {pl : Sem Bool}
theorem de_static (hg : Gl X Cn) (hC : X.mg Cn = some (.ref C)) (k : SMet X.K C mc m p g) (F : FnD X wish g f) (ha : DA X wish (e :: es) t da) (hd : (Cn == ("__debug__" : Str)) = false := by decide) (hst : starEach (e :: es) X.env = (false, eval e X.env) :: starEach es X.env := by rfl) (hpl : (backTo pos (starEach es X.env)).any (·.1) = false := by rfl)
    (ht : eval (.Call (.Attribute (.Name Cn np) m apos) (e :: es) [] pos) X.env = (do let ov ← eval (.Name Cn np) X.env; standAt apos.atName; let (f, first) ← holding [ov] (getMethod ov m pl); callWith pos f first (backTo pos (starEach (e :: es) X.env)) (backToKw pos (keywordEach [] X.env))) := by rfl) :
    DE X wish (.Call (.Attribute (.Name Cn np) m apos) (e :: es) [] pos) (tFn (gx X) wish f t) (dFn f da) := ⟨⟨fun pins s σ H Q I hw => by
  refine PySem.W.methodCall_KW (pl := pl) (thn ((pe_glob (X := X) (v := .ref C) (pos := np) hg hC rfl hd).run pins s σ H (fun x H1 => x = .ref C ∧ H1 = H) I ⟨rfl, rfl⟩) fun u s1 ⟨x, H1, I1, rx, ex, eH⟩ => ?_) ht
  subst ex eH
  obtain rfl : u = Value.ref C := rx
  obtain ⟨rest, hrc⟩ := k.rc
  obtain ⟨m0, hF⟩ := I1.fr
  refine PySem.W.method_cls I1.kIn k.rd.ga (PySem.W.cls_sm hF I1.ok.mod.kin k.ty k.rd.rd k.at_ hrc rfl ?_)
  refine PySem.W.callWith_K (first := []) (h₀ := X.base) I1.ok.mod.kin k.kp (thn (ha.pa.run pos pins _ σ _ _ (I1.tok _) hw) fun us s2 ⟨vs, H2, I2, r, W, xs, hW, ok, rl, q⟩ => ⟨I2.kIn, ?_⟩) hst hpl
  subst hW
  exact F.run pins s2 σ W us vs xs Q I2 r ok rl q⟩, sim_fn ha.sim⟩
/-- C.f, a constant -/
theorem de_cconst {x : Dv} {v : V} {u : Value} {f : Str} (hg : Gl X Cn) (hC : X.mg Cn = some (.ref C)) (r : CRead X.K C mc) (k : CVal X.K C mc f v u) (hx : ∀ W, Rep (gx X) W v x) (hd : (Cn == ("__debug__" : Str)) = false := by decide) (hb : attributeBase (.Name Cn np) f X.env (eval (.Name Cn np) X.env) = eval (.Name Cn np) X.env := by rfl) :
    DE X wish (.Attribute (.Name Cn np) f pos) (tCVal X.K (tC (.ref C)) f) (dC x) := ⟨pe_cval (pe_glob (X := X) (v := .ref C) (pos := np) hg hC rfl hd) hb, fun B W σ s Q e p => ⟨C, mc, v, u, rfl, r, k, p v W e Stp.refl (hx W)⟩⟩
end

/-! ### for over own objects -/
/-- anything that a loop walks: also objects with such an __iter__ -/
noncomputable def dSrcO (T : Str → Option Str) (d : Ls → R Dv) : Ls → R Src := fun s => (d s).bind fun x s => match x with
  | .ref n => (match ownList T s.mem n with
    | some ds => .ok ⟨ds, always⟩ s
    | none => .stuck)
  | _ => .stuck
theorem di_own {X : Cx} {wish : WX} {k : Nat} {T : Str → Option Str} {tg l : Expr} {te : TE} {d : Ls → R Dv} (hT : IterTab X k T) (hr : Room k X.A) (h : DE X wish l te d) :
    DI X wish tg l (fun σ H R => te σ H fun x H1 => ∃ a C Ca dx fl F ls zs, x = V.ref a ∧ X.mg C = some (.ref Ca) ∧ T C = some F ∧ H1 a = some (.ins Ca dx fl) ∧ fl.lookup F = some (.ref ls) ∧ SqL X.K H1 ls zs ∧ R (Itl X.K ls) H1) (dSrcO T d) :=
  ⟨pi_own hT hr h.pe, fun B W σ s Q e p => h.sim B W σ s _ e (Post.bind (rep := rV (gx X)) (rep2 := rI (gx X)) p fun x s1 v W1 _ e1 z1 r1 p1 => by
    cases x <;> first | exact p1.elim | skip
    rename_i n _
    cases hds : ownList T s1.mem n with
    | none => simp only [hds] at p1; exact p1.elim
    | some ds =>
      simp only [hds] at p1
      unfold ownList at hds
      split at hds
      · rename_i C fs hm
        obtain ⟨F, hF, hds⟩ := bind1 hds
        split at hds
        · rename_i ds' hlk
          cases hds
          cases r1 with
          | ref hr1 =>
            rw [e1.mem] at hm
            obtain ⟨Ca, dx, l, g1, g2, g3⟩ := e1.wok.cells n _ _ hm hr1
            obtain ⟨u, q1, q2⟩ := (RepF.lookup (f := F) g3).1 _ hlk
            cases q2 with
            | lst y1 y2 y3 => exact ⟨_, C, Ca, dx, l, F, _, _, rfl, g1, hF, g2, q1, SqL.of y1, p1 _ W1 e1 Stp.refl (itOk_list y1 y2 y3)⟩
        · cases hds
      · cases hds)⟩
end DD

/-! D17: defs by FunD; a new list into the store; tests by == -/
namespace DD
open PySem L2
open PyProof.Rows hiding St

section
variable {P : Program} {w : World} {K : PySem.W.Frag} {mg : Str → Option Value} {base : Heap} {x qual : Str} {params : Arguments} {body : List Stmt} {scope : Scope} {dvs : List V} {kws : List (Str × V)} {f : Addr} {fd : FuncData} {N ps : List Str} {k : Nat} {d : Ls → Fl}
/-- THE RULE for a def that lets nothing out -/
theorem fd_ok (F : FunD K x qual params body scope dvs kws f fd) (S : FnScope N ps scope)
    (h : ∀ (cdv : Value) (oc : Value) (od : Option Addr) (osl : Array (Option Value)) (A : Around) (outer : List Env) (s : Shared) (H : Hp) (E : XK), fd.code = cdv → PySem.W.codeIn K cdv qual = true → K.lookup f = some ⟨oc, od, .func fd, osl⟩ → Room k (A.deeper (envOfC qual scope s.heap.objs.size f cdv)) → ∃ t, DB (cxOf CX0 P w K mg base N qual scope f cdv A outer s H E).nox noX body t d) :
    FnOk P w K mg base CX0 (k + 1) f fd ps (spD ⟨K, mg, base⟩ false ps.length (dDef N.length d)) := by
  obtain ⟨oc, od, dV, kV, doc, pm, an, cdv, ct, osl, e, lk, hcd, _, _⟩ := F.ex
  subst e
  refine fn_of lk hcd S (fun vs H Q E hs => spD_len hs) fun A outer s H vs Q E hr hs => ?_
  obtain ⟨t, hb⟩ := h cdv oc od osl A outer s H E rfl hcd lk hr
  exact ⟨t, hb.ps.nox, body_ok (ex := false) (wish := noX) hb.sim (fun _ _ _ _ z => (by cases z)) hs⟩
/-- .. for a def that may raise -/
theorem fd_okX (F : FunD K x qual params body scope dvs kws f fd) (S : FnScope N ps scope)
    (h : ∀ (cdv : Value) (oc : Value) (od : Option Addr) (osl : Array (Option Value)) (A : Around) (outer : List Env) (s : Shared) (H : Hp) (E : XK), fd.code = cdv → PySem.W.codeIn K cdv qual = true → K.lookup f = some ⟨oc, od, .func fd, osl⟩ → Room k (A.deeper (envOfC qual scope s.heap.objs.size f cdv)) → ∃ t, DB (cxOf (L2.CX P w) P w K mg base N qual scope f cdv A outer s H E) (fun c dx _ H' => E c dx H') body t d) :
    FnOk P w K mg base (L2.CX P w) (k + 1) f fd ps (spD ⟨K, mg, base⟩ true ps.length (dDef N.length d)) := by
  obtain ⟨oc, od, dV, kV, doc, pm, an, cdv, ct, osl, e, lk, hcd, _, _⟩ := F.ex
  subst e
  refine fn_of lk hcd S (fun vs H Q E hs => spD_len hs) fun A outer s H vs Q E hr hs => ?_
  obtain ⟨t, hb⟩ := h cdv oc od osl A outer s H E rfl hcd lk hr
  exact ⟨t, hb.ps, body_ok hb.sim (fun _ _ _ _ _ z => z) hs⟩
end

/-! ### a new list is put into the store: it may be handed on and changed -/
theorem Emb.storeTmp {G : Gx} {B W : Wd} {σ : L2.St} {s : Ls} (e : Emb G B W σ s) {n : Nat} {ds : List Dv} {p : Addr} (h1 : s.tmp[n]? = some ds) (h2 : W.tmp[n]? = some p) (hn : n + 1 = s.tmp.length) :
    ∃ W', W'.H = W.H ∧ W'.tmp = W.tmp.dropLast ∧ Emb G B W' σ { loc := s.loc, mem := s.mem ++ [.lst ds], tmp := s.tmp.dropLast } ∧ Fz W.hot W.rho W.H W'.hot W'.rho W'.H ∧ Rep G W' (.ref p) (.ref s.mem.length) := by
  obtain ⟨⟨xs, q1, q2⟩, q3, q4, q5⟩ := e.tmpO n ds p h1 h2
  have hlen : W.rho.length = s.mem.length := by rw [e.wok.len, e.mem]
  have z : Fz W.hot W.rho W.H W.hot (W.rho ++ [p]) W.H := ⟨fun _ _ _ h => h, fun _ _ h _ => h, fun _ _ h => h, fun _ _ _ h => h, fun m a h => by rw [List.getElem?_append_left (List.getElem?_eq_some_iff.mp h).1]; exact h⟩
  have notin : p ∉ W.tmp.dropLast := fun hm => by
    obtain ⟨m, hm⟩ := List.mem_iff_getElem?.mp hm
    obtain ⟨g1, g2⟩ := getElem?_dropLast' hm
    have := (List.getElem?_inj (by omega) e.tmpN).mp (g1.trans h2.symm)
    have := e.tmpL
    omega
  have inR : ∀ b, b ∈ W.rho ++ [p] → b ∈ W.rho ∨ b = p := fun b hb => (List.mem_append.mp hb).imp id fun h => by simpa using h
  have rp : (W.rho ++ [p])[s.mem.length]? = some p := by rw [← hlen, List.getElem?_append_right (Nat.le_refl _), Nat.sub_self]; rfl
  refine ⟨⟨W.hot, W.rho ++ [p], W.mem ++ [.lst ds], W.H, W.tmp.dropLast⟩, rfl, rfl, ?_, z, .ref rp⟩
  refine ⟨⟨?_, ?_, e.wok.hotd, fun a ha => ?_, fun m o a g1 g2 => ?_⟩, by rw [e.mem], e.len, fun j d hj => ?_, fun j es hj => ?_, e.ownI, ?_, e.bhot, ?_, fun m es b g1 g2 => ?_, e.tmpN.sublist (List.dropLast_sublist _), fun j es b g1 g2 hb => e.tmpS j es b g1 g2 (List.dropLast_subset _ hb)⟩
  · show (W.rho ++ [p]).Nodup
    rw [List.nodup_append]
    exact ⟨e.wok.nd, by simp, fun a ha b hb q => q4 (by rw [List.mem_singleton] at hb; rw [← hb, ← q]; exact ha)⟩
  · show (W.rho ++ [p]).length = (W.mem ++ [Ob.lst ds]).length
    rw [List.length_append, List.length_append, e.wok.len]; rfl
  · exact (inR a ha).elim (e.wok.hotr a) fun h => by rw [h]; exact q3
  · have g1' : (W.mem ++ [.lst ds])[m]? = some o := g1
    have g2' : (W.rho ++ [p])[m]? = some a := g2
    by_cases hm : m < W.mem.length
    · rw [List.getElem?_append_left hm] at g1'
      rw [List.getElem?_append_left (by rw [e.wok.len]; exact hm)] at g2'
      exact (e.wok.cells m o a g1' g2').fz (W' := ⟨W.hot, W.rho ++ [p], W.mem ++ [.lst ds], W.H, W.tmp.dropLast⟩) z fun u q => q
    · have hl := (List.getElem?_eq_some_iff.mp g1').1
      rw [List.length_append, List.length_singleton] at hl
      obtain rfl : m = W.mem.length := by omega
      rw [List.getElem?_append_right (Nat.le_refl _), Nat.sub_self] at g1'
      rw [List.getElem?_append_right (by rw [e.wok.len]; exact Nat.le_refl _), e.wok.len, Nat.sub_self] at g2'
      cases g1'; cases g2'
      exact ⟨xs, q1, RepX.mono z q2⟩
  · obtain ⟨v, k1, k2⟩ := e.val j d hj
    exact ⟨v, k1, RepX.mono z k2⟩
  · obtain ⟨b, ys, k1, k2, k3, k4, k5, k6⟩ := e.own j es hj
    exact ⟨b, ys, k1, k2, RepX.mono z k3, k4, fun h => (inR b h).elim k5 fun q => by subst q; exact e.tmpS j es _ hj k1 (List.mem_of_getElem? h2), k6⟩
  · have c := e.stp
    refine ⟨c.keep, c.tups, c.frzs, fun m a h => z.pre m a (c.pre m a h), c.hotB, c.hotN, fun a h => (inR a h).elim (c.rhoN a) fun q => by rw [q]; exact .inr q5, c.dom⟩
  · show s.tmp.dropLast.length = W.tmp.dropLast.length
    rw [List.length_dropLast, List.length_dropLast, e.tmpL]
  · obtain ⟨a1, a2⟩ := getElem?_dropLast' g1
    obtain ⟨b1, b2⟩ := getElem?_dropLast' g2
    obtain ⟨⟨ys, k1, k2⟩, k3, k4, k5⟩ := e.tmpO m es b a1 b1
    exact ⟨⟨ys, k1, RepX.mono z k2⟩, k3, fun h => (inR b h).elim k4 fun q => notin (q ▸ List.mem_of_getElem? g2), k5⟩
def dStore (d : Ls → R Nat) : Ls → R Dv := fun s0 => (d s0).bind fun n s => if n = s0.tmp.length ∧ n + 1 = s.tmp.length then (match s.tmp[n]? with
  | some ds => .ok (.ref s.mem.length) { loc := s.loc, mem := s.mem ++ [.lst ds], tmp := s.tmp.dropLast }
  | none => .stuck) else .stuck
theorem sim_store {G : Gx} {wish : WX} {te : TE} {d : Ls → R Nat} (h : Sim G (rN G) wish te d) : Sim G (rV G) wish te (dStore d) := fun B W σ s Q e p => by
  refine h B W σ s Q e ?_
  unfold dStore at p
  cases hd : d s with
  | stuck => rw [hd] at p; exact p
  | err x s1 => rw [hd] at p; exact p
  | ok n s1 =>
    rw [hd] at p
    simp only [R.bind_ok] at p
    intro v W1 e1 z1 r1
    obtain ⟨q, hq, rfl⟩ := r1
    split at p
    · rename_i hc
      split at p
      · rename_i ds hs
        obtain ⟨W2, g1, g3, g4, g5, g6⟩ := e1.storeTmp hs hq hc.2
        rw [← g1]
        refine p _ W2 g4 ⟨z1.fz.trans g5, fun m a hm => ?_⟩ g6
        have h1 := z1.tmp m a hm
        have h2 := (List.getElem?_eq_some_iff.mp hm).1
        rw [g3, getElem?_dropLast (by rw [← e1.tmpL, ← hc.2, hc.1, e.tmpL]; omega)]
        exact h1
      · exact p.elim
    · exact p.elim
theorem de_store {X : Cx} {wish : WX} {e : Expr} {te : TE} {d : Ls → R Nat} (h : DN X wish e te d) : DE X wish e te (dStore d) := ⟨h.pe, sim_store h.sim⟩

section
variable {X : Cx} {wish : WX} {k : Nat} {T : Str → Option Den} {a b : Expr} {ta tb : TE} {da db : Ls → R Rd} {pos : Pos}
theorem dt_eqA (hT : EqTab X k T) (hr : Room k X.A) (hu : X.A.units + 64 < cLine) (ha : DR X wish a ta da) (hb : DR X wish b tb db) (hm : behindInMarks .Eq b = false := by with_unfolding_all rfl) : DT X wish (.Compare a [.Eq] [b] pos) (tTest (tOp (rEqX (gx X) T) ta tb)) (dTest (dEqA T da db)) :=
  ⟨pt_cmpR (op_eqX hT hr hu) ha.pe hb.pe hm, sim_test (sim_eqA ha.sim hb.sim)⟩
end
end DD

/-! D18: short forms for printed derivations -/
namespace DD
open PySem L2 ClX
open PyProof.Rows hiding St

def bnames : List Str := ["len", "abs", "int", "bool", "str", "max", "min", "any", "all", "tuple", "list", "sorted", "set", "isinstance", "range", "enumerate", "zip", "ord", "type", "iter", "reversed", "sum", "dict", "ValueError"]
/-- the text binds none of the built-in names -/
structure Free (mg : Str → Option Value) : Prop where
  no : ∀ x ∈ bnames, mg x = none
theorem Free.no' {mg : Str → Option Value} (B : Free mg) {x : Str} (h : bnames.contains x = true := by decide +kernel) : mg x = none := B.no x (by simpa using h)
theorem _root_.L2.Room.u64 {k : Nat} {A : Around} (h : Room k A) : A.units + 64 < cLine := by have := h.un; omega
theorem _root_.L2.Room.u65 {k : Nat} {A : Around} (h : Room k A) : A.units + 65 < cLine := by have := h.un; omega
theorem bt_len : bootBuiltins "len" = some (.builtin "len") := by decide +kernel
theorem bt_abs : bootBuiltins "abs" = some (.builtin "abs") := by decide +kernel
theorem bt_int : bootBuiltins "int" = some (.type "int") := by decide +kernel
theorem bt_bool : bootBuiltins "bool" = some (.type "bool") := by decide +kernel
theorem bt_str : bootBuiltins "str" = some (.type "str") := by decide +kernel
theorem bt_max : bootBuiltins "max" = some (.builtin "max") := by decide +kernel
theorem bt_min : bootBuiltins "min" = some (.builtin "min") := by decide +kernel
theorem bt_any : bootBuiltins "any" = some (.builtin "any") := by decide +kernel
theorem bt_all : bootBuiltins "all" = some (.builtin "all") := by decide +kernel
theorem bt_tuple : bootBuiltins "tuple" = some (.type "tuple") := by decide +kernel
theorem bt_list : bootBuiltins "list" = some (.type "list") := by decide +kernel
theorem bt_sorted : bootBuiltins "sorted" = some (.builtin "sorted") := by decide +kernel
theorem bt_set : bootBuiltins "set" = some (.type "set") := by decide +kernel
theorem bt_isinstance : bootBuiltins "isinstance" = some (.builtin "isinstance") := by decide +kernel
theorem bt_ord : bootBuiltins "ord" = some (.builtin "ord") := by decide +kernel
theorem bt_iter : bootBuiltins "iter" = some (.builtin "iter") := by decide +kernel
section
variable {X : Cx} {wish : WX} {k : Nat} {e a b c : Expr} {es : List Expr} {te : TE} {ta : TA} {da : Ls → R (List Rd)} {p pos : Pos}
theorem e_abs (B : Free X.mg) (ha : DAr X wish [e] ta da) (hg : Gl X "abs" := by rfl) (he : starEach [e] X.env = (false, eval e X.env) :: starEach [] X.env := by rfl) (hpl : (backTo pos (starEach [] X.env)).any (·.1) = false := by rfl) : DE X wish (.Call (.Name "abs" p) [e] [] pos) (tCB (fun xs H Q => ∃ i, xs = [.int i] ∧ Q (.int (if i < 0 then -i else i)) H) ta) (dCB fAbs da) := de_callB call_abs pure_abs hg B.no' bt_abs ha (by decide) (by decide) he hpl
theorem e_int (B : Free X.mg) (ha : DAr X wish [e] ta da) (hg : Gl X "int" := by rfl) (he : starEach [e] X.env = (false, eval e X.env) :: starEach [] X.env := by rfl) (hpl : (backTo pos (starEach [] X.env)).any (·.1) = false := by rfl) : DE X wish (.Call (.Name "int" p) [e] [] pos) (tCB rIntA ta) (dCB fInt da) := de_callTy call_intA pure_int hg B.no' bt_int ha (by decide) (by decide) he hpl
theorem e_bool (B : Free X.mg) (ha : DAr X wish [e] ta da) (hg : Gl X "bool" := by rfl) (he : starEach [e] X.env = (false, eval e X.env) :: starEach [] X.env := by rfl) (hpl : (backTo pos (starEach [] X.env)).any (·.1) = false := by rfl) : DE X wish (.Call (.Name "bool" p) [e] [] pos) (tCB (fun xs H Q => (∃ i, xs = [.int i] ∧ Q (.bl (i != 0)) H) ∨ ∃ k, xs = [.bl k] ∧ Q (.bl k) H) ta) (dCB fBool da) := de_callTy call_bool1 pure_bool hg B.no' bt_bool ha (by decide) (by decide) he hpl
theorem e_str (B : Free X.mg) (ha : DAr X wish [e] ta da) (hg : Gl X "str" := by rfl) (he : starEach [e] X.env = (false, eval e X.env) :: starEach [] X.env := by rfl) (hpl : (backTo pos (starEach [] X.env)).any (·.1) = false := by rfl) : DE X wish (.Call (.Name "str" p) [e] [] pos) (tCB (fun xs H Q => ∃ i, xs = [.int i] ∧ i.natAbs.log2 < 1920 ∧ Q (.str (toString i)) H) ta) (dCB fStrI da) := de_callTy call_str_int pure_strI hg B.no' bt_str ha (by decide) (by decide) he hpl
theorem e_max2 (B : Free X.mg) (ha : DAr X wish [a, b] ta da) (hg : Gl X "max" := by rfl) (hc : X.calm = true := by rfl) (he : starEach [a, b] X.env = (false, eval a X.env) :: starEach [b] X.env := by rfl) (hpl : (backTo pos (starEach [b] X.env)).any (·.1) = false := by rfl) : DE X wish (.Call (.Name "max" p) [a, b] [] pos) (tCB (fun xs H Q => ∃ i j, xs = [.int i, .int j] ∧ Q (.int (if j > i then j else i)) H) ta) (dCB fMax2 da) := de_callB (call_max2 hc) pure_max2 hg B.no' bt_max ha (by decide) (by decide) he hpl
theorem e_min2 (B : Free X.mg) (ha : DAr X wish [a, b] ta da) (hg : Gl X "min" := by rfl) (hc : X.calm = true := by rfl) (he : starEach [a, b] X.env = (false, eval a X.env) :: starEach [b] X.env := by rfl) (hpl : (backTo pos (starEach [b] X.env)).any (·.1) = false := by rfl) : DE X wish (.Call (.Name "min" p) [a, b] [] pos) (tCB (fun xs H Q => ∃ i j, xs = [.int i, .int j] ∧ Q (.int (if j < i then j else i)) H) ta) (dCB fMin2 da) := de_callB (call_min2 hc) pure_min2 hg B.no' bt_min ha (by decide) (by decide) he hpl
theorem e_minL (B : Free X.mg) (ha : DAr X wish [e] ta da) (hg : Gl X "min" := by rfl) (hc : X.calm = true := by rfl) (he : starEach [e] X.env = (false, eval e X.env) :: starEach [] X.env := by rfl) (hpl : (backTo pos (starEach [] X.env)).any (·.1) = false := by rfl) : DE X wish (.Call (.Name "min" p) [e] [] pos) (tCB (rMin X.K) ta) (dCB fMinL da) := de_callB (cr_min hc) pure_minL hg B.no' bt_min ha (by decide) (by decide) he hpl
theorem e_maxL (B : Free X.mg) (ha : DAr X wish [e] ta da) (hg : Gl X "max" := by rfl) (hc : X.calm = true := by rfl) (he : starEach [e] X.env = (false, eval e X.env) :: starEach [] X.env := by rfl) (hpl : (backTo pos (starEach [] X.env)).any (·.1) = false := by rfl) : DE X wish (.Call (.Name "max" p) [e] [] pos) (tCB (rMax X.K) ta) (dCB fMaxL da) := de_callB (cr_max hc) pure_maxL hg B.no' bt_max ha (by decide) (by decide) he hpl
theorem e_any (B : Free X.mg) (ha : DAr X wish [e] ta da) (hg : Gl X "any" := by rfl) (hc : X.calm = true := by rfl) (he : starEach [e] X.env = (false, eval e X.env) :: starEach [] X.env := by rfl) (hpl : (backTo pos (starEach [] X.env)).any (·.1) = false := by rfl) : DE X wish (.Call (.Name "any" p) [e] [] pos) (tCB (rAny X.K) ta) (dCB fAny da) := de_callB (cr_any hc) pure_any hg B.no' bt_any ha (by decide) (by decide) he hpl
theorem e_all (B : Free X.mg) (ha : DAr X wish [e] ta da) (hg : Gl X "all" := by rfl) (hc : X.calm = true := by rfl) (he : starEach [e] X.env = (false, eval e X.env) :: starEach [] X.env := by rfl) (hpl : (backTo pos (starEach [] X.env)).any (·.1) = false := by rfl) : DE X wish (.Call (.Name "all" p) [e] [] pos) (tCB (rAll X.K) ta) (dCB fAll da) := de_callB (cr_all hc) pure_all hg B.no' bt_all ha (by decide) (by decide) he hpl
theorem e_tuple (B : Free X.mg) (ha : DAr X wish [e] ta da) (hg : Gl X "tuple" := by rfl) (he : starEach [e] X.env = (false, eval e X.env) :: starEach [] X.env := by rfl) (hpl : (backTo pos (starEach [] X.env)).any (·.1) = false := by rfl) : DE X wish (.Call (.Name "tuple" p) [e] [] pos) (tCB (rTupleOf X.K) ta) (dCB fTuple da) := de_callTy call_tuple_of pure_tuple hg B.no' bt_tuple ha (by decide) (by decide) he hpl

theorem e_len {T : Str → Option Den} (B : Free X.mg) (hT : OwnTab X k "__len__" T) (hr : Room (k + 1) X.A) (ha : DAr X wish [e] ta da) (hg : Gl X "len" := by rfl) (he : starEach [e] X.env = (false, eval e X.env) :: starEach [] X.env := by rfl) (hpl : (backTo pos (starEach [] X.env)).any (·.1) = false := by rfl) : DE X wish (.Call (.Name "len" p) [e] [] pos) (tCB (rLenX (gx X) T) ta) (dLenA T da) := de_len hT hr hg B.no' bt_len ha he hpl
def noT : Str → Option Den := fun _ => none
def noF : Str → Option Str := fun _ => none
theorem noT_own {m : Str} : OwnTab X k m noT := fun C f h => by cases h
theorem noF_iter : IterTab X k noF := fun C f h => by cases h
/-- len of what is no own object -/
theorem pure_lenA {G : Gx} : PureC G (rLenA G.K) fLen := pure_len
theorem e_len0 (B : Free X.mg) (ha : DAr X wish [e] ta da) (hg : Gl X "len" := by rfl) (he : starEach [e] X.env = (false, eval e X.env) :: starEach [] X.env := by rfl) (hpl : (backTo pos (starEach [] X.env)).any (·.1) = false := by rfl) : DE X wish (.Call (.Name "len" p) [e] [] pos) (tCB (rLenA X.K) ta) (dCB fLen da) := de_callB call_len pure_len hg B.no' bt_len ha (by decide) (by decide) he hpl
theorem n_list {TI : Str → Option Str} {TL : Str → Option Den} (B : Free X.mg) (hI : IterTab X k TI) (hL : OwnTab X k "__len__" TL) (hr : Room (k + 3) X.A) (ha : DAr X wish [e] ta da) (hg : Gl X "list" := by rfl) (he : starEach [e] X.env = (false, eval e X.env) :: starEach [] X.env := by rfl) (hpl : (backTo pos (starEach [] X.env)).any (·.1) = false := by rfl) : DN X wish (.Call (.Name "list" p) [e] [] pos) (tCB (rListX (gx X) TI TL) ta) (dListA TI TL da) := dn_list hI hL hr hg B.no' bt_list ha he hpl
theorem n_list0 (B : Free X.mg) (ha : DAr X wish [e] ta da) (hg : Gl X "list" := by rfl) (he : starEach [e] X.env = (false, eval e X.env) :: starEach [] X.env := by rfl) (hpl : (backTo pos (starEach [] X.env)).any (·.1) = false := by rfl) : DN X wish (.Call (.Name "list" p) [e] [] pos) (tCB (rListOf X.K) ta) (dCN fList da) := dn_callTy call_list_of pureN_list hg B.no' bt_list ha (by decide) (by decide) he hpl
theorem n_sortI (B : Free X.mg) (ha : DAr X wish [e] ta da) (hg : Gl X "sorted" := by rfl) (he : starEach [e] X.env = (false, eval e X.env) :: starEach [] X.env := by rfl) (hpl : (backTo pos (starEach [] X.env)).any (·.1) = false := by rfl) : DN X wish (.Call (.Name "sorted" p) [e] [] pos) (tCB (rSortedI X.K) ta) (dCN fSortI da) := dn_callB cr_sortedI pureN_sortI hg B.no' bt_sorted ha (by decide) (by decide) he hpl
theorem n_sortSet {d : Ls → R Dv} {p2 q : Pos} (B : Free X.mg) (ha : DE X wish e te d) (hg : Gl X "sorted" := by rfl) (hg2 : Gl X "set" := by rfl) (hc : X.calm = true := by rfl) (na : starEach [e] X.env = (false, eval e X.env) :: starEach [] X.env := by rfl) : DN X wish (.Call (.Name "sorted" p) [.Call (.Name "set" p2) [e] [] q] [] pos) (tSortSet X.K te) (dSortSet d) := dn_sortSet hc hg B.no' hg2 B.no' bt_sorted ha na
theorem e_isi {tb : Tg → Tg → Option Bool} (B : Free X.mg) (T : IsTab (gx X) tb) (ha : DAr X wish [a, c] ta da) (hg : Gl X "isinstance" := by rfl) (he : starEach [a, c] X.env = (false, eval a X.env) :: starEach [c] X.env := by rfl) (hpl : (backTo pos (starEach [c] X.env)).any (·.1) = false := by rfl) : DE X wish (.Call (.Name "isinstance" p) [a, c] [] pos) (tCB (rIsi X.K) ta) (dCM (fIsi tb) da) := de_isi T hg B.no' bt_isinstance ha he hpl
theorem e_tyInt (B : Free X.mg) (hg : Gl X "int" := by rfl) : DE X wish (.Name "int" pos) (tC (.ty "int")) (dC (.ty "int")) := de_ty hg B.no' bt_int
theorem e_tyBool (B : Free X.mg) (hg : Gl X "bool" := by rfl) : DE X wish (.Name "bool" pos) (tC (.ty "bool")) (dC (.ty "bool")) := de_ty hg B.no' bt_bool
theorem e_tyStr (B : Free X.mg) (hg : Gl X "str" := by rfl) : DE X wish (.Name "str" pos) (tC (.ty "str")) (dC (.ty "str")) := de_ty hg B.no' bt_str
theorem e_tyTuple (B : Free X.mg) (hg : Gl X "tuple" := by rfl) : DE X wish (.Name "tuple" pos) (tC (.ty "tuple")) (dC (.ty "tuple")) := de_ty hg B.no' bt_tuple
theorem e_tyList (B : Free X.mg) (hg : Gl X "list" := by rfl) : DE X wish (.Name "list" pos) (tC (.ty "list")) (dC (.ty "list")) := de_ty hg B.no' bt_list
end
section
variable {X : Cx} {wish : WX} {k : Nat} {tg a b e e2 : Expr} {te : TE} {ta : TA} {d : Ls → R (List Dv)} {p pos tpos : Pos} {elts : List Expr} {kk : Nat}
theorem i_range1 (B : Free X.mg) (ha : DA X wish [a] ta d) (hg : Gl X "range" := by rfl) (hs : starEach [a] X.env = [(false, eval a X.env)] := by rfl) : DI X wish tg (.Call (.Name "range" p) [a] [] pos) (iRng1 ta) (dRng1 d) := di_range1 hg B.no' ha hs
theorem i_range2 (B : Free X.mg) (ha : DA X wish [a, b] ta d) (hg : Gl X "range" := by rfl) (hs : starEach [a, b] X.env = [(false, eval a X.env), (false, eval b X.env)] := by rfl) (hs2 : starEach [b] X.env = [(false, eval b X.env)] := by rfl) : DI X wish tg (.Call (.Name "range" p) [a, b] [] pos) (iRng2 ta) (dRng2 d) := di_range2 hg B.no' ha hs hs2
theorem i_enum (B : Free X.mg) (ha : DA X wish [e] ta d) (hg : Gl X "enumerate" := by rfl) (hs : starEach [e] X.env = [(false, eval e X.env)] := by rfl) : DI X wish (.Tuple elts kk tpos) (.Call (.Name "enumerate" p) [e] [] pos) (iEnum X.K ta) (dEnum d) := di_enum hg B.no' ha hs
theorem i_zip (B : Free X.mg) (ha : DA X wish [e, e2] ta d) (hg : Gl X "zip" := by rfl) (hs : starEach [e, e2] X.env = (false, eval e X.env) :: starEach [e2] X.env := by rfl) (hpl : (backTo pos (starEach [e2] X.env)).any (·.1) = false := by rfl) : DI X wish (.Tuple elts kk tpos) (.Call (.Name "zip" p) [e, e2] [] pos) (iZip X.K ta) (dZip d) := di_zip hg B.no' ha hs hpl
end

/-! ### calls by name -/
/-- the def x is there, and does what f says -/
structure Cal (P : Program) (w : World) (K : PySem.W.Frag) (mg : Str → Option Value) (base : Heap) (x : Str) (k : Nat) (f : Den) : Prop where
  of : ∃ (a : Addr) (fd : FuncData) (ps : List Str) (n : Nat) (g : Den) (ds : List Value) (dvs : List V) (dds : List Dv), mg x = some (.ref a) ∧ PySem.W.keepIn K (.ref a) = true ∧ FnOk P w K mg base CX0 k a fd ps (spD ⟨K, mg, base⟩ false n g) ∧ Binds K fd ps ds ∧ Vals dvs ds ∧ (∀ W, RepL ⟨K, mg, base⟩ W dvs dds) ∧ f = withD n dds (noEx g)
theorem cal_mk {P : Program} {w : World} {K : PySem.W.Frag} {mg : Str → Option Value} {base : Heap} {x : Str} {k n : Nat} {a : Addr} {fd : FuncData} {ps : List Str} {g : Den} (hm : mg x = some (.ref a)) (hk : PySem.W.keepIn K (.ref a) = true) (F : FnOk P w K mg base CX0 k a fd ps (spD ⟨K, mg, base⟩ false n g)) (hb : Binds K fd ps []) : Cal P w K mg base x k (withD n [] (noEx g)) := ⟨a, fd, ps, n, g, [], [], [], hm, hk, F, hb, .nil, fun _ => .nil, rfl⟩
section
variable {X : Cx} {wish : WX} {j k : Nat} {x : Str} {f : Den} {e : Expr} {es : List Expr} {t : TA} {da : Ls → R (List Dv)} {p pos : Pos}
theorem e_call (C : Cal X.prog X.w X.K X.mg X.base x j f) (hr : Room k X.A) (ha : DA X wish (e :: es) t da) (hjk : j ≤ k := by decide) (hg : Gl X x := by rfl) (hdb : (x == ("__debug__" : Str)) = false := by decide) (he : starEach (e :: es) X.env = (false, eval e X.env) :: starEach es X.env := by rfl)
    (hpl : (backTo pos (starEach es X.env)).any (·.1) = false := by rfl) : DE X wish (.Call (.Name x p) (e :: es) [] pos) (tFn (gx X) wish f t) (dFn f da) := by
  obtain ⟨a, fd, ps, n, g, ds, dvs, dds, hm, hk, F, hb, hd, hdd, rfl⟩ := C.of
  exact de_call (fnD_of0 F (hr.mono hjk) hb hd hdd) hg hm hk ha hdb he hpl
theorem e_call0 (C : Cal X.prog X.w X.K X.mg X.base x j f) (hr : Room k X.A) (hjk : j ≤ k := by decide) (hg : Gl X x := by rfl) (hdb : (x == ("__debug__" : Str)) = false := by decide) : DE X wish (.Call (.Name x p) [] [] pos) (tFn (gx X) wish f tNil) (dFn f dNil) := by
  obtain ⟨a, fd, ps, n, g, ds, dvs, dds, hm, hk, F, hb, hd, hdd, rfl⟩ := C.of
  exact de_call0 (fnD_of0 F (hr.mono hjk) hb hd hdd) hg hm hk hdb
end
/-- a class's own method, plain -/
structure MCal (P : Program) (w : World) (K : PySem.W.Frag) (mg : Str → Option Value) (base : Heap) (Cn m : Str) (k : Nat) (f : Den) : Prop where
  of : ∃ (g : Addr) (fd : FuncData) (ps : List Str) (n : Nat) (h : Den) (ds : List Value) (dvs : List V) (dds : List Dv), mg Cn = some (.ref (He.ga K Cn)) ∧ Cls K (He.ga K Cn) ∧ Meth K (He.ga K Cn) m g ∧ PySem.W.fnIn K g = true ∧ FnOk P w K mg base CX0 k g fd ps (spD ⟨K, mg, base⟩ false n h) ∧ Binds K fd ps ds ∧ Vals dvs ds ∧ (∀ W, RepL ⟨K, mg, base⟩ W dvs dds) ∧ f = withD n dds (noEx h)
section
variable {X : Cx} {wish : WX} {j k : Nat} {Cn m : Str} {f : Den} {o e : Expr} {es : List Expr} {ta : TE} {t : TA} {d : Ls → R Dv} {da : Ls → R (List Dv)} {apos pos : Pos} {pl : Sem Bool}
theorem e_meth (C : MCal X.prog X.w X.K X.mg X.base Cn m j f) (hr : Room k X.A) (h : DE X wish o ta d) (ha : DA X wish (e :: es) t da) (hjk : j ≤ k := by decide) (hst : starEach (e :: es) X.env = (false, eval e X.env) :: starEach es X.env := by rfl) (hpl : (backTo pos (starEach es X.env)).any (·.1) = false := by rfl)
    (ht : eval (.Call (.Attribute o m apos) (e :: es) [] pos) X.env = (do let ov ← eval o X.env; standAt apos.atName; let (f, first) ← holding [ov] (getMethod ov m pl); callWith pos f first (backTo pos (starEach (e :: es) X.env)) (backToKw pos (keywordEach [] X.env))) := by rfl) :
    DE X wish (.Call (.Attribute o m apos) (e :: es) [] pos) (tMt (gx X) wish (He.ga X.K Cn) m f ta t) (dMt Cn m f d da) := by
  obtain ⟨g, fd, ps, n, h', ds, dvs, dds, hC, hc, hm, _, F, hb, hd, hdd, rfl⟩ := C.of
  exact de_meth hC hc hm (fnD_of0 F (hr.mono hjk) hb hd hdd) h ha hst hpl ht
theorem e_meth0 (C : MCal X.prog X.w X.K X.mg X.base Cn m j f) (hr : Room k X.A) (h : DE X wish o ta d) (hjk : j ≤ k := by decide)
    (ht : eval (.Call (.Attribute o m apos) [] [] pos) X.env = (do let ov ← eval o X.env; standAt apos.atName; let (f, first) ← holding [ov] (getMethod ov m pl); callWith pos f first (backTo pos (starEach [] X.env)) (backToKw pos (keywordEach [] X.env))) := by rfl) :
    DE X wish (.Call (.Attribute o m apos) [] [] pos) (tMt (gx X) wish (He.ga X.K Cn) m f ta tNil) (dMt Cn m f d dNil) := by
  obtain ⟨g, fd, ps, n, h', ds, dvs, dds, hC, hc, hm, _, F, hb, hd, hdd, rfl⟩ := C.of
  exact de_meth0 hC hc hm (fnD_of0 F (hr.mono hjk) hb hd hdd) h ht
end
/-- a class's __init__ -/
structure KCal (P : Program) (w : World) (K : PySem.W.Frag) (mg : Str → Option Value) (base : Heap) (Cn : Str) (k : Nat) (f : Den) : Prop where
  of : ∃ (g : Addr) (fd : FuncData) (ps : List Str) (n : Nat) (h : Den) (ds : List Value) (dvs : List V) (dds : List Dv), mg Cn = some (.ref (He.ga K Cn)) ∧ Mk K (He.ga K Cn) g ∧ FnOk P w K mg base CX0 k g fd ps (spD ⟨K, mg, base⟩ false n h) ∧ Binds K fd ps ds ∧ Vals dvs ds ∧ (∀ W, RepL ⟨K, mg, base⟩ W dvs dds) ∧ f = withD n dds (noEx h)
section
variable {X : Cx} {wish : WX} {j k : Nat} {Cn : Str} {f : Den} {e : Expr} {es : List Expr} {t : TA} {da : Ls → R (List Dv)} {p pos : Pos}
theorem e_mk (C : KCal X.prog X.w X.K X.mg X.base Cn j f) (hr : Room (k + 1) X.A) (ha : DA X wish (e :: es) t da) (hjk : j ≤ k := by decide) (hg : Gl X Cn := by rfl) (hdb : (Cn == ("__debug__" : Str)) = false := by decide) (he : starEach (e :: es) X.env = (false, eval e X.env) :: starEach es X.env := by rfl)
    (hpl : (backTo pos (starEach es X.env)).any (·.1) = false := by rfl) : DE X wish (.Call (.Name Cn p) (e :: es) [] pos) (tMk (gx X) wish (He.ga X.K Cn) f t) (dMk Cn f da) := by
  obtain ⟨g, fd, ps, n, h', ds, dvs, dds, hC, M, F, hb, hd, hdd, rfl⟩ := C.of
  exact de_mk (mkD_of0 M F (hr.mono (by omega)) hb hd hdd) hg hC ha hdb he hpl
theorem e_mk0 (C : KCal X.prog X.w X.K X.mg X.base Cn j f) (hr : Room (k + 1) X.A) (hjk : j ≤ k := by decide) (hg : Gl X Cn := by rfl) (hdb : (Cn == ("__debug__" : Str)) = false := by decide) : DE X wish (.Call (.Name Cn p) [] [] pos) (tMk (gx X) wish (He.ga X.K Cn) f tNil) (dMk Cn f dNil) := by
  obtain ⟨g, fd, ps, n, h', ds, dvs, dds, hC, M, F, hb, hd, hdd, rfl⟩ := C.of
  exact de_mk0 (mkD_of0 M F (hr.mono (by omega)) hb hd hdd) hg hC hdb
end
/-- a static method -/
structure SCal (P : Program) (w : World) (K : PySem.W.Frag) (mg : Str → Option Value) (base : Heap) (Cn m : Str) (k : Nat) (f : Den) : Prop where
  of : ∃ (p g : Addr) (mc : Value) (fd : FuncData) (ps : List Str) (n : Nat) (h : Den) (ds : List Value) (dvs : List V) (dds : List Dv), mg Cn = some (.ref (He.ga K Cn)) ∧ SMet K (He.ga K Cn) mc m p g ∧ FnOk P w K mg base CX0 k g fd ps (spD ⟨K, mg, base⟩ false n h) ∧ Binds K fd ps ds ∧ Vals dvs ds ∧ (∀ W, RepL ⟨K, mg, base⟩ W dvs dds) ∧ f = withD n dds (noEx h)
theorem e_static {X : Cx} {wish : WX} {j k : Nat} {Cn m : Str} {f : Den} {e : Expr} {es : List Expr} {t : TA} {da : Ls → R (List Dv)} {np apos pos : Pos} {pl : Sem Bool} (C : SCal X.prog X.w X.K X.mg X.base Cn m j f) (hr : Room k X.A) (ha : DA X wish (e :: es) t da) (hjk : j ≤ k := by decide) (hg : Gl X Cn := by rfl) (hd : (Cn == ("__debug__" : Str)) = false := by decide) (hst : starEach (e :: es) X.env = (false, eval e X.env) :: starEach es X.env := by rfl) (hpl : (backTo pos (starEach es X.env)).any (·.1) = false := by rfl)
    (ht : eval (.Call (.Attribute (.Name Cn np) m apos) (e :: es) [] pos) X.env = (do let ov ← eval (.Name Cn np) X.env; standAt apos.atName; let (f, first) ← holding [ov] (getMethod ov m pl); callWith pos f first (backTo pos (starEach (e :: es) X.env)) (backToKw pos (keywordEach [] X.env))) := by rfl) :
    DE X wish (.Call (.Attribute (.Name Cn np) m apos) (e :: es) [] pos) (tFn (gx X) wish f t) (dFn f da) := by
  obtain ⟨p, g, mc, fd, ps, n, h', ds, dvs, dds, hC, S, F, hb, hdv, hdd, rfl⟩ := C.of
  exact de_static hg hC S (fnD_of0 F (hr.mono hjk) hb hdv hdd) ha hd hst hpl ht
end DD

/-! D19: facts told by the head; the end -/
namespace DD
open PySem L2 ClX
open PyProof.Rows hiding St

/-! ### append, pop -/
section
variable {X : Cx} {wish : WX} {o e : Expr} {es : List Expr} {to : TE} {t : TA} {d : Ls → R Rd} {da : Ls → R (List Dv)} {apos cpos : Pos}
theorem e_append (ho : DR X wish o to d) (ha : DA X wish [e] t da) (hbase : attributeBase o "append" X.env (eval o X.env) = eval o X.env := by rfl)
    (hfew : ((backTo cpos (starEach [e] X.env)).all (fun x => !x.1) && (backToKw cpos (keywordEach [] X.env)).all (fun x => x.1.isSome) && decide ([e].length + ([] : List Keyword).length + (if ([] : List Keyword).isEmpty then 0 else 1) < 30)) = true := by rfl)
    (hline : (apos.endLine == cpos.line) = true := by rfl) (hs : starEach [e] X.env = (false, eval e X.env) :: starEach [] X.env := by rfl) (hplain : (backTo cpos (starEach [] X.env)).any (·.1) = false := by rfl) :
    DE X wish (.Call (.Attribute o "append" apos) [e] [] cpos) (tBM X.K "list" rAppend to t) (dMut fAppend d da) := de_mut PySem.F.plainAttrs_list PySem.F.slot_list_append PySem.F.type_list_append mt_append pure_append ho ha hbase hfew hline hs hplain
theorem e_popAt (ho : DR X wish o to d) (ha : DA X wish [e] t da) (hbase : attributeBase o "pop" X.env (eval o X.env) = eval o X.env := by rfl)
    (hfew : ((backTo cpos (starEach [e] X.env)).all (fun x => !x.1) && (backToKw cpos (keywordEach [] X.env)).all (fun x => x.1.isSome) && decide ([e].length + ([] : List Keyword).length + (if ([] : List Keyword).isEmpty then 0 else 1) < 30)) = true := by rfl)
    (hline : (apos.endLine == cpos.line) = true := by rfl) (hs : starEach [e] X.env = (false, eval e X.env) :: starEach [] X.env := by rfl) (hplain : (backTo cpos (starEach [] X.env)).any (·.1) = false := by rfl) :
    DE X wish (.Call (.Attribute o "pop" apos) [e] [] cpos) (tBM X.K "list" rPopAt to t) (dMut fPopAt d da) := de_mut PySem.F.plainAttrs_list PySem.F.slot_list_pop PySem.F.type_list_pop mt_popAt pure_popAt ho ha hbase hfew hline hs hplain
end

/-! ### what the head tells -/
/-- a def: where it stands -/
structure DefE where
  at_ : PySem.W.Frag → Addr
  name : Str
  qual : Str
  params : Arguments
  body : List Stmt
  scope : Scope
  dfl : List He.Dv := []
  kwd : List (Str × He.Dv) := []
def fnWa (K : PySem.W.Frag) (a : Addr) : He.FnW := match K.lookup a with
  | some ⟨_, _, .func fd, _⟩ => some (fd.name, fd.qualname, fd.params, fd.body, fd.scope, fd.globals, fd.closure, fd.builtins)
  | _ => none
def DefE.val (d : DefE) : He.FnW := some (d.name, d.qual, d.params, .stmts d.body, d.scope, mainGlobals, [], builtinsNs)
def DefE.dvs (K : PySem.W.Frag) (d : DefE) : List V := d.dfl.map (He.Dv.v K)
def DefE.kws (K : PySem.W.Frag) (d : DefE) : List (Str × V) := d.kwd.map fun q => (q.1, q.2.v K)
def DefE.ok (K : PySem.W.Frag) (d : DefE) : Bool := PySem.W.keepIn K (.ref (d.at_ K)) && (match K.lookup (d.at_ K) with
  | some ⟨_, _, .func fd, _⟩ => PySem.W.codeIn K fd.code d.qual && (He.dflB K fd.defaults (d.dvs K) && He.kwdB K fd.kwdefaults (d.kws K))
  | _ => false)
theorem DefE.funD {K : PySem.W.Frag} {d : DefE} (e : fnWa K (d.at_ K) = d.val) (c : d.ok K = true) : ∃ fd, FunD K d.name d.qual d.params d.body d.scope (d.dvs K) (d.kws K) (d.at_ K) fd := by
  obtain ⟨kp, c2⟩ := He.ba c
  unfold fnWa at e
  cases q : K.lookup (d.at_ K) with
  | none => rw [q] at c2; cases c2
  | some o =>
    obtain ⟨oc, od, dt, osl⟩ := o
    rw [q] at c2 e
    cases dt <;> first | (cases c2; done) | skip
    rename_i fd
    obtain ⟨n1, n2, n3, n4, n5, n6, n7, n8, n9, n10, n11, n12, n13, n14, n15⟩ := fd
    have e2 : (some (n1, n2, n3, n4, n5, n6, n7, n15) : He.FnW) = some (d.name, d.qual, d.params, .stmts d.body, d.scope, mainGlobals, [], builtinsNs) := e
    simp only [Option.some.injEq, Prod.mk.injEq] at e2
    obtain ⟨h1, h2, h3, h4, h5, h6, h7, h8⟩ := e2
    subst h1 h2 h3 h4 h5 h6 h7 h8
    obtain ⟨k1, k2⟩ := He.ba (show (PySem.W.codeIn K n13 d.qual && (He.dflB K n8 (d.dvs K) && He.kwdB K n9 (d.kws K))) = true from c2)
    obtain ⟨k3, k4⟩ := He.ba k2
    exact ⟨_, ⟨oc, od, n8, n9, n10, n11, n12, n13, n14, osl, rfl, q, k1, He.dflB_ok k3, He.kwdB_ok k4⟩, kp⟩
abbrev Fact := PySem.W.Frag → Bool
/-- facts, defs; the defs whose tables are wanted -/
structure SaysY (fs : List Fact) (fn : List DefE) (tf : List He.Defn) (h : Heap) (K : PySem.W.Frag) : Prop where
  facts : fs.all (fun f => f K) = true
  oks : fn.all (fun d => d.ok K) = true
  defs : fn.map (fun d => fnWa K (d.at_ K)) = fn.map DefE.val
  hd : ∀ p ∈ tf, PySem.W.codeHdIn K (He.cT K p).1 (He.cT K p).2 = true
  out : ∀ p ∈ tf, K.lookup (He.cT K p).2 = none
  empty : ∀ p ∈ tf, h.get? (He.cT K p).2 = some { cls := .none, data := .fields #[] }
abbrev AlY : Type := Bool × List He.FnW
def obsY (n : Nat) (fs : List Fact) (fn : List DefE) (tf : List He.Defn) (g : Addr → Option Obj) : AlY :=
  let K := He.frT g (He5.asA g n)
  (fs.all (fun f => f K) && (fn.all (fun d => d.ok K) && He.tabsB g tf K), fn.map fun d => fnWa K (d.at_ K))
def valY (fn : List DefE) : AlY := (true, fn.map DefE.val)
theorem saysY_of {n : Nat} {fs : List Fact} {fn : List DefE} {tf : List He.Defn} {h : Heap} (e : obsY n fs fn tf h.get? = valY fn) : SaysY fs fn tf h (He.frT h.get? (He5.asA h.get? n)) := by
  have e1 := congrArg (fun z : AlY => z.1) e
  have e2 := congrArg (fun z : AlY => z.2) e
  obtain ⟨h1, h2⟩ := He.ba (show (fs.all (fun f => f (He.frT h.get? (He5.asA h.get? n))) && (fn.all (fun d => d.ok (He.frT h.get? (He5.asA h.get? n))) && He.tabsB h.get? tf (He.frT h.get? (He5.asA h.get? n)))) = true from e1)
  obtain ⟨h3, h4⟩ := He.ba h2
  have key : ∀ p ∈ tf, PySem.W.codeHdIn (He.frT h.get? (He5.asA h.get? n)) (He.cT (He.frT h.get? (He5.asA h.get? n)) p).1 (He.cT (He.frT h.get? (He5.asA h.get? n)) p).2 = true ∧ ∃ o, h.get? (He.cT (He.frT h.get? (He5.asA h.get? n)) p).2 = some o ∧ He.emptyTab o = true := fun p hp => by
    obtain ⟨k1, k2⟩ := He.ba (List.all_eq_true.mp h4 p hp)
    refine ⟨k1, ?_⟩
    cases q : h.get? (He.cT (He.frT h.get? (He5.asA h.get? n)) p).2 with
    | none => rw [q] at k2; cases k2
    | some o => rw [q] at k2; exact ⟨o, rfl, k2⟩
  refine ⟨h1, h3, e2, fun p hp => (key p hp).1, fun p hp => ?_, fun p hp => ?_⟩
  · obtain ⟨_, o, q, z⟩ := key p hp
    exact He.frT_none q z
  · obtain ⟨_, o, q, z⟩ := key p hp
    rw [q, He.emptyTab_eq z]
def hookY (n : Nat) (fs : List Fact) (fn : List DefE) (tf : List He.Defn) : PySem.W.Hook where
  α := AlY
  obs := fun s => obsY n fs fn tf s.heap.get?
  val := fun _ => valY fn
  says := fun _ h => ∃ K : PySem.W.Frag, K.In h ∧ SaysY fs fn tf h K
  of := fun _ _ e => ⟨_, He.frT_in, saysY_of e⟩
  keeps := fun _ _ _ ⟨K, hK, c⟩ k => ⟨K, PySem.W.Frag.In.keeps hK k, ⟨c.facts, c.oks, c.defs, c.hd, c.out, fun p hp => k _ _ (c.empty p hp)⟩⟩
theorem obsY_eq {n : Nat} {fs : List Fact} {fn : List DefE} {tf : List He.Defn} {g : Addr → Option Obj} {s : Shared} (h : ∀ a, g a = s.heap.get? a) : obsY n fs fn tf g = (hookY n fs fn tf).obs s := by
  have e : g = s.heap.get? := funext h
  rw [e] <;> rfl
section
variable {fs : List Fact} {fn : List DefE} {tf : List He.Defn} {h : Heap} {K : PySem.W.Frag}
theorem SaysY.fact (c : SaysY fs fn tf h K) (i : Nat) {f : Fact} (e : fs[i]? = some f := by rfl) : f K = true := List.all_eq_true.mp c.facts f (List.mem_of_getElem? e)
theorem SaysY.def_ (c : SaysY fs fn tf h K) (i : Nat) {d : DefE} (e : fn[i]? = some d := by rfl) : ∃ fd, FunD K d.name d.qual d.params d.body d.scope (d.dvs K) (d.kws K) (d.at_ K) fd := by
  have e2 : (fn.map fun d => fnWa K (d.at_ K))[i]? = (fn.map DefE.val)[i]? := by rw [c.defs]
  rw [List.getElem?_map, List.getElem?_map, e] at e2
  exact DefE.funD (Option.some.inj e2) (List.all_eq_true.mp c.oks d (List.mem_of_getElem? e))
end
/-! ### facts -/
def fOf (f : He.Fa) : Fact := fun K => f.ok K
/-- C.m is a static method -/
def smB (K : PySem.W.Frag) (C : Addr) (m : Str) : Bool := PySem.W.readsIn K C (.type "type") && (decide (PySem.W.specialIn K (.ref C) "__getattribute__" = some (some (.builtin "type.__getattribute__"))) && (decide (PySem.W.typeIn K (.ref C) = some (.type "type")) && (He5.wrapB K C "staticmethod" "staticmethod.__get__" m && PySem.W.keepIn K (.ref (He5.wf K C "staticmethod" m)))))
theorem smB_ok {K : PySem.W.Frag} {C : Addr} {m : Str} (h : smB K C m = true) : SMet K C (.type "type") m (He.ma K C m) (He5.wf K C "staticmethod" m) := by
  obtain ⟨h1, h⟩ := He.ba h
  obtain ⟨h2, h⟩ := He.ba h
  obtain ⟨h3, h⟩ := He.ba h
  obtain ⟨h4, h5⟩ := He.ba h
  obtain ⟨k1, k2⟩ := He5.wrapB_ok h4
  exact ⟨⟨h1, of_decide_eq_true h2⟩, of_decide_eq_true h3, k1, k2, h5⟩
/-- own classes told apart -/
def isTbl (cs : List Str) : Tg → Tg → Option Bool
  | .cls a, .cls b => if a ∈ cs ∧ b ∈ cs then some (a == b) else none
  | t, u => tyTab t u
def isB (cs : List Str) : Fact := fun K => cs.all fun a => (cs.all fun b => decide (PySem.W.kitOne K (.ref (He.ga K a)) (.ref (He.ga K b)) = some (a == b))) && (decide (PySem.W.findIn K (.ref (He.ga K a)) "__class__" = some (some (.builtin "object.__class__"))) &&
  (decide (PySem.W.specialIn K (.builtin "object.__class__") "__get__" = some (some (.builtin "getset_descriptor.__get__"))) && (decide (PySem.W.takesIn K (.builtin "object.__class__") = some true) && decide (PySem.W.mroIn K (He.ga K a) (.type "object") = some true))))
theorem isB_ok {G : Gx} {cs : List Str} (h : isB cs G.K = true) (hc : ∀ c ∈ cs, Cls G.K (He.ga G.K c)) (hm : ∀ c ∈ cs, G.mg c = some (.ref (He.ga G.K c))) : IsTab G (isTbl cs) := by
  have key : ∀ a ∈ cs, (∀ b ∈ cs, PySem.W.kitOne G.K (.ref (He.ga G.K a)) (.ref (He.ga G.K b)) = some (a == b)) ∧ PySem.W.findIn G.K (.ref (He.ga G.K a)) "__class__" = some (some (.builtin "object.__class__")) ∧
      PySem.W.specialIn G.K (.builtin "object.__class__") "__get__" = some (some (.builtin "getset_descriptor.__get__")) ∧ PySem.W.takesIn G.K (.builtin "object.__class__") = some true ∧ PySem.W.mroIn G.K (He.ga G.K a) (.type "object") = some true := fun a ha => by
    obtain ⟨h1, h2⟩ := He.ba (List.all_eq_true.mp h a ha)
    obtain ⟨h3, h4⟩ := He.ba h2
    obtain ⟨h5, h6⟩ := He.ba h4
    obtain ⟨h7, h8⟩ := He.ba h6
    exact ⟨fun b hb => of_decide_eq_true (List.all_eq_true.mp h1 b hb), of_decide_eq_true h3, of_decide_eq_true h5, of_decide_eq_true h7, of_decide_eq_true h8⟩
  refine ⟨fun t u b tv uv hb h1 h2 => ?_, fun C u b Ca hb hC => ?_⟩
  · cases t with
    | ty n => exact tyTab_ok.one _ _ _ _ _ (show tyTab (.ty n) u = some b by cases u <;> exact hb) h1 h2
    | cls x =>
      cases u with
      | ty n => simp [isTbl, tyTab] at hb
      | cls y =>
        simp only [isTbl] at hb
        split at hb
        · rename_i hc'
          obtain ⟨a1, q1, rfl⟩ := h1
          obtain ⟨a2, q2, rfl⟩ := h2
          rw [hm x hc'.1] at q1; cases q1
          rw [hm y hc'.2] at q2; cases q2
          rw [← hb]
          exact (key x hc'.1).1 y hc'.2
        · cases hb
  · cases u with
    | ty n => simp [isTbl, tyTab] at hb
    | cls y =>
      simp only [isTbl] at hb
      split at hb
      · rename_i hc'
        rw [hm C hc'.1] at hC; cases hC
        obtain ⟨_, k1, k2, k3, k4⟩ := key C hc'.1
        exact ⟨hc C hc'.1, k1, k2, k3, k4⟩
      · cases hb

/-! ### the end -/
/-- law's promise -/
def spLaw (K : PySem.W.Frag) (Ps : List Addr) : Sp := fun vs H Q _ => ∃ (a : Addr) (ns : List Int), vs = [.ref a] ∧ SqL K H a (ns.map V.int) ∧ ns.length ≤ 63 ∧ (∀ z ∈ ns, Builtin.Int.intBits z ≤ 1048576) ∧ (∀ p ∈ Ps, H p = some (.tbl #[])) ∧ ∀ H', Q (.bl true) H'
abbrev Tb : Type := Option Str × Str × Str
def Tb.ob (t : Tb) : Ob := .tab t.1 t.2.1 t.2.2
theorem start_ok {G : Gx} {H : Hp} {Ps : List Addr} {ts : List Tb} (nd : Ps.Nodup) (len : Ps.length = ts.length) (hH : ∀ p ∈ Ps, H p = some (.tbl #[])) (home : ∀ (i : Nat) P t, Ps[i]? = some P → ts[i]? = some t → ∃ f oc od fd osl c, HomeFn G t.2.1 f t.1 ∧ G.K.lookup f = some ⟨oc, od, .func fd, osl⟩ ∧ fd.code = .ref c ∧ LamX.TabB G.base G.mg c P) :
    WOk G ⟨fun b => b ∈ Ps, Ps, ts.map Tb.ob, H, []⟩ := by
  refine ⟨nd, by show Ps.length = (ts.map Tb.ob).length; rw [List.length_map, len], fun a h => ⟨_, hH a h⟩, fun a h => h, fun n o a h1 h2 => ?_⟩
  have h1' : (ts.map Tb.ob)[n]? = some o := h1
  rw [List.getElem?_map] at h1'
  obtain ⟨t, ht, rfl⟩ := Option.map_eq_some_iff.mp h1'
  exact ⟨home n a t h2 ht, LamX.TabS.nil (hH a (List.mem_of_getElem? h2))⟩
theorem law_at {l : PySem.W.OpenLaw} {w : World} {K : PySem.W.Frag} {k : Nat} {x : Str} {mg : Str → Option Value} {fa : Addr} {h : Heap} {fs : List Fact} {fn : List DefE} {tf : List He.Defn} {ts : List Tb} {fd : FuncData} {den : Den} (c : SaysY fs fn tf h K) (KX : K.In h)
    (nd : (tf.map fun p => (He.cT K p).2).Nodup) (len : tf.length = ts.length) (home : ∀ (base : Heap) (i : Nat) p t, tf[i]? = some p → ts[i]? = some t → ∃ f oc od fd osl, HomeFn ⟨K, mg, base⟩ t.2.1 f t.1 ∧ K.lookup f = some ⟨oc, od, .func fd, osl⟩ ∧ fd.code = .ref (He.cT K p).1)
    (bind : ∀ (s : Shared) (u : Value), BindsTo s fd ⟨[u], []⟩ [(x, u)]) (F : ∀ base : Heap, K.In base → base.Ns mainGlobals mg → FnOk l.prog w K mg base CX0 k fa fd [x] (spD ⟨K, mg, base⟩ false 1 den))
    (pure : ∀ ns : List Int, ns.length ≤ 63 → (∀ z ∈ ns, Builtin.Int.intBits z ≤ 1048576) → ∃ m, den [.scr ns] (ts.map Tb.ob) = .ok (.bl true) m) : LamX.LawAtS l w K CX0 k 63 x mg fa h := by
  refine ⟨fd, tf.map (He.cT K), spLaw K (tf.map fun p => (He.cT K p).2), fun p hp => ?_, fun p hp => ?_, fun p hp => ?_, bind, fun H a ns hl hb hT hS => ?_, fun base hK hN hB => ?_⟩
  · obtain ⟨q, hq, rfl⟩ := List.mem_map.mp hp
    exact c.empty q hq
  · obtain ⟨q, hq, rfl⟩ := List.mem_map.mp hp
    exact c.out q hq
  · obtain ⟨q, hq, rfl⟩ := List.mem_map.mp hp
    exact PySem.W.codeHd_of_K KX (c.hd q hq)
  · refine ⟨a, ns, rfl, hS, hl, hb, fun P hP => ?_, fun _ => rfl⟩
    obtain ⟨q, hq, rfl⟩ := List.mem_map.mp hP
    exact hT _ (List.mem_map_of_mem hq)
  · refine (F base hK hN).imp fun vs H Q E hs => ?_
    obtain ⟨a, ns, rfl, hS, hl, hb, hT, q⟩ := hs
    obtain ⟨m, hm⟩ := pure ns hl hb
    have ok := start_ok (G := ⟨K, mg, base⟩) (ts := ts) nd (by rw [List.length_map]; exact len) hT fun i P t h1 h2 => by
      rw [List.getElem?_map] at h1
      obtain ⟨p, hp, rfl⟩ := Option.map_eq_some_iff.mp h1
      obtain ⟨f, oc, od, fd, osl, k1, k2, k3⟩ := home base i p t hp h2
      exact ⟨f, oc, od, fd, osl, _, k1, k2, k3, hB _ (List.mem_map_of_mem (List.mem_of_getElem? hp))⟩
    refine ⟨_, [.scr ns], rfl, ok, .cons (.scr ?_) .nil, rfl, ?_⟩
    · rcases hS with (h1 | ⟨o, h1⟩) | h1
      · exact .inl ⟨h1, fun hot => by rw [hT a hot] at h1; cases h1⟩
      · exact .inr (.inl ⟨o, h1⟩)
      · exact .inr (.inr h1)
    · show (match den [.scr ns] (ts.map Tb.ob) with | .ok x m => _ | .err x m => _ | .stuck => False)
      rw [hm]
      intro v W' _ _ _ rp
      cases rp
      exact q _
end DD

/-! D20: classes in tables -/
namespace DD
open PySem L2 ClX
open PyProof.Rows hiding St

def tb (Cn : Str) (f : Den) : Str → Option Den := fun C => if C = Cn then some f else none
def tbF (Cn F : Str) : Str → Option Str := fun C => if C = Cn then some F else none
theorem tb_some {Cn C : Str} {f g : Den} (h : tb Cn f C = some g) : C = Cn ∧ g = f := by
  unfold tb at h
  split at h
  · rename_i e; exact ⟨e, (Option.some.inj h).symm⟩
  · cases h
theorem tbF_some {Cn C F G : Str} (h : tbF Cn F C = some G) : C = Cn ∧ G = F := by
  unfold tbF at h
  split at h
  · rename_i e; exact ⟨e, (Option.some.inj h).symm⟩
  · cases h
section
variable {X : Cx} {Cn m : Str} {j k : Nat} {f : Den}
theorem MCal.fnA (C : MCal X.prog X.w X.K X.mg X.base Cn m j f) (hjk : j ≤ k) : ∃ g, X.mg Cn = some (.ref (He.ga X.K Cn)) ∧ Meth X.K (He.ga X.K Cn) m g ∧ PySem.W.fnIn X.K g = true ∧ FnA X k g f := by
  obtain ⟨g, fd, ps, n, h', ds, dvs, dds, hC, hc, hm, hfi, F, hb, hd, hdd, rfl⟩ := C.of
  exact ⟨g, hC, hm, hfi, (fnA_of F no0 hb hd hdd).mono hjk⟩
theorem ownTab_of (C : MCal X.prog X.w X.K X.mg X.base Cn m j f) (hjk : j ≤ k := by decide) : OwnTab X k m (tb Cn f) := fun C' g h => by
  obtain ⟨rfl, rfl⟩ := tb_some h
  obtain ⟨a, h1, h2, _, h4⟩ := C.fnA hjk
  exact ⟨_, a, h1, h2.at_, h2.fn, h4⟩
theorem ixTab_of (C : MCal X.prog X.w X.K X.mg X.base Cn "__getitem__" j f) (hjk : j ≤ k := by decide) : IxTab X k (tb Cn f) := by
  refine ⟨ownTab_of C hjk, fun C' g Ca fa h h1 h2 => ?_⟩
  obtain ⟨rfl, rfl⟩ := tb_some h
  obtain ⟨a, k1, k2, k3, _⟩ := C.fnA hjk
  rw [k1] at h1; cases h1
  rw [k2.at_] at h2; cases h2
  exact k3
theorem setTab_of (C : MCal X.prog X.w X.K X.mg X.base Cn "__setitem__" j f) (ns : PySem.W.noSeq X.K (He.ga X.K Cn) = true) (hjk : j ≤ k := by decide) : SetTab X k (tb Cn f) := by
  refine ⟨ownTab_of C hjk, fun C' g Ca h h1 => ?_⟩
  obtain ⟨rfl, rfl⟩ := tb_some h
  obtain ⟨a, k1, _⟩ := C.fnA hjk
  rw [k1] at h1; cases h1
  exact ns
end
/-- an own __iter__ that gives iter(self.F) -/
structure ICal (P : Program) (w : World) (K : PySem.W.Frag) (mg : Str → Option Value) (base : Heap) (Cn : Str) (j : Nat) (F : Str) : Prop where
  of : ∃ fi, mg Cn = some (.ref (He.ga K Cn)) ∧ Meth K (He.ga K Cn) "__iter__" fi ∧ ∀ X : Cx, X.prog = P → X.w = w → X.K = K → X.mg = mg → X.base = base → FnI X j (He.ga K Cn) fi F
theorem iterTab_of {X : Cx} {Cn F : Str} {j k : Nat} (C : ICal X.prog X.w X.K X.mg X.base Cn j F) (hjk : j ≤ k := by decide) : IterTab X k (tbF Cn F) := fun C' G h => by
  obtain ⟨rfl, rfl⟩ := tbF_some h
  obtain ⟨fi, h1, h2, h3⟩ := C.of
  exact ⟨_, fi, h1, h2.at_, h2.fn, (h3 X rfl rfl rfl rfl rfl).mono hjk⟩
/-! fields -/
def ctOf (flds : List (Str × Str)) (C f : Str) : Bool := decide ((C, f) ∈ flds)
def fldB (flds : List (Str × Str)) : Fact := fun K => flds.all fun p => (He.Fa.glo p.1).ok K && ((He.Fa.cls p.1).ok K && (He.Fa.noat p.1 p.2).ok K)
theorem fldOk_of {h : Heap} {K : PySem.W.Frag} {mg : Str → Option Value} {base : Heap} {flds : List (Str × Str)} (X : K.In h) (G : h.Ns mainGlobals mg) (c : fldB flds K = true) : FldOk ⟨K, mg, base⟩ (ctOf flds) := fun Cn f Ca hc hm => by
  obtain ⟨h1, h2⟩ := He.ba (List.all_eq_true.mp c (Cn, f) (of_decide_eq_true hc))
  obtain ⟨h3, h4⟩ := He.ba h2
  have e := (He.glo_ok X G h1).symm.trans hm
  cases e
  exact ⟨He.cls_ok h3, He.noat_ok h4⟩
def freeB : Fact := fun K => bnames.all fun x => (He.Fa.free x).ok K
theorem free_of {h : Heap} {K : PySem.W.Frag} {mg : Str → Option Value} (X : K.In h) (G : h.Ns mainGlobals mg) (c : freeB K = true) : Free mg := ⟨fun x hx => He.free_ok X G (List.all_eq_true.mp c x hx)⟩
/-! making the records -/
section
variable {P : Program} {w : World} {K : PySem.W.Frag} {mg : Str → Option Value} {base : Heap} {Cn m : Str} {k n : Nat} {g : Addr} {fd : FuncData} {ps : List Str} {h : Den} {x q : Str} {params : Arguments} {body : List Stmt} {scope : Scope} {dvs : List V} {kws : List (Str × V)}
theorem fnIn_of (F : FunD K x q params body scope dvs kws g fd) : PySem.W.fnIn K g = true := by
  obtain ⟨oc, od, dV, kV, doc, pm, an, cdv, ct, osl, e, lk, _⟩ := F.ex
  unfold PySem.W.fnIn
  rw [lk]
theorem mcal_mk (hC : mg Cn = some (.ref (He.ga K Cn))) (hc : Cls K (He.ga K Cn)) (hm : Meth K (He.ga K Cn) m g) (F0 : FunD K x q params body scope dvs kws g fd) (F : FnOk P w K mg base CX0 k g fd ps (spD ⟨K, mg, base⟩ false n h)) (hb : Binds K fd ps []) : MCal P w K mg base Cn m k (withD n [] (noEx h)) :=
  ⟨g, fd, ps, n, h, [], [], [], hC, hc, hm, fnIn_of F0, F, hb, .nil, fun _ => .nil, rfl⟩
theorem kcal_mk (hC : mg Cn = some (.ref (He.ga K Cn))) (M : Mk K (He.ga K Cn) g) (F : FnOk P w K mg base CX0 k g fd ps (spD ⟨K, mg, base⟩ false n h)) (hb : Binds K fd ps []) : KCal P w K mg base Cn k (withD n [] (noEx h)) :=
  ⟨g, fd, ps, n, h, [], [], [], hC, M, F, hb, .nil, fun _ => .nil, rfl⟩
theorem scal_mk (hC : mg Cn = some (.ref (He.ga K Cn))) (S : SMet K (He.ga K Cn) (.type "type") m (He.ma K (He.ga K Cn) m) g) (F : FnOk P w K mg base CX0 k g fd ps (spD ⟨K, mg, base⟩ false n h)) (hb : Binds K fd ps []) : SCal P w K mg base Cn m k (withD n [] (noEx h)) :=
  ⟨_, g, _, fd, ps, n, h, [], [], [], hC, S, F, hb, .nil, fun _ => .nil, rfl⟩
theorem ical_mk {N : List Str} {F f p0 : Str} (hC : mg Cn = some (.ref (He.ga K Cn))) (hc : Cls K (He.ga K Cn)) (na : NoAttr K (He.ga K Cn) F) (hm : Meth K (He.ga K Cn) "__iter__" g) (U : FunD K x q params body scope [] kws g fd) (S : FnScope N [p0] scope) (hN : N[0]? = some p0) (hb : Binds K fd [p0] [])
    (bd : ∀ (cdv : Value) (A : Around) (outer : List Env) (s : Shared) (H : Hp) (E : XK), PSs (cxOf CX0 P w K mg base N q scope g cdv A outer s H E) body (tRet (tCB (ItX.rIterN K s.heap.objs.size) (tCons (tFld K (tVar 0) F) tNil)))) : ICal P w K mg base Cn (k + 1) F :=
  ⟨g, hC, hm, fun X e1 e2 e3 e4 e5 => by subst e1 e2 e3 e4 e5; exact fnI_of U S hc na hN hb bd⟩
end
end DD

/-! D21: comprehensions again: the inner readings may name the block's context (the meet of all of them is one reading) -/
namespace DD
open PySem L2
open PyProof.Rows hiding St
section
variable {ι : Type} {Y : ι → Cx} {G : Gx} {wish : WX}
theorem DE.meet {e : Expr} {d : Ls → R Dv} (hG : ∀ i, gx (Y i) = G) (h : ∀ i, ∃ t, DE (Y i) wish e t d) : ∃ t, ∀ i, DE (Y i) wish e t d :=
  ⟨fun σ H Q => ∀ i, Classical.choose (h i) σ H Q, fun i => ⟨⟨fun pins s σ H Q I q => (Classical.choose_spec (h i)).pe.run pins s σ H Q I (q i)⟩, fun B W σ s Q e p j => by
    have := (Classical.choose_spec (h j)).sim
    rw [hG j, ← hG i] at this
    exact this B W σ s Q e p⟩⟩
theorem DTs.meet {e : List Expr} {d : Ls → R Bool} (hG : ∀ i, gx (Y i) = G) (h : ∀ i, ∃ t, DTs (Y i) wish e t d) : ∃ t, ∀ i, DTs (Y i) wish e t d :=
  ⟨fun σ H Q => ∀ i, Classical.choose (h i) σ H Q, fun i => ⟨⟨fun pins s σ H Q I q => (Classical.choose_spec (h i)).pt.run pins s σ H Q I (q i)⟩, fun B W σ s Q e p j => by
    have := (Classical.choose_spec (h j)).sim
    rw [hG j, ← hG i] at this
    exact this B W σ s Q e p⟩⟩
theorem DG.meet {e : Expr} {tv : List Nat} {d : Dv → Ls → Option Ls} (hG : ∀ i, gx (Y i) = G) (h : ∀ i, ∃ t, DG (Y i) e t tv d) : ∃ t, ∀ i, DG (Y i) e t tv d :=
  ⟨fun v σ H Q => ∀ i, Classical.choose (h i) v σ H Q, fun i => ⟨⟨fun pins s σ H v u Q I rv q => (Classical.choose_spec (h i)).pg.run pins s σ H v u Q I rv (q i)⟩, fun B W σ s v x s' k e r hd q j => by
    have := (Classical.choose_spec (h j)).sim
    rw [hG j, ← hG i] at this
    exact this B W σ s v x s' k e r hd q⟩⟩
end
section
variable {X : Cx} {wish : WX} {elt tg iter : Expr} {ifs : List Expr} {scope : Scope} {own : List (Str × Nat)} {pos : Pos} {wi : TI} {tv : List Nat} {src : Ls → R Src} {dg : Dv → Ls → Option Ls} {dt : Ls → R Bool} {el : Ls → R Dv}
open Classical in
noncomputable def epN (X : Cx) (wish : WX) (e : Expr) (d : Ls → R Nat) : TE := if h : ∃ t, DN X wish e t d then choose h else fun _ _ _ => False
theorem epN_ok {e : Expr} {d : Ls → R Nat} (h : ∃ t, DN X wish e t d) : DN X wish e (epN X wish e d) d := by
  unfold epN; rw [dif_pos h]; exact Classical.choose_spec h
open Classical in
noncomputable def epS (X : Cx) (wish : WX) (e : Stmt) (d : Ls → Fl) : TS := if h : ∃ t, DS X wish e t d then choose h else fun _ _ _ => False
theorem epS_ok {e : Stmt} {d : Ls → Fl} (h : ∃ t, DS X wish e t d) : DS X wish e (epS X wish e d) d := by
  unfold epS; rw [dif_pos h]; exact Classical.choose_spec h
abbrev BI := Shared × Hp × Addr × List (Str × Addr) × List Addr
abbrev blkI (X : Cx) (scope : Scope) (i : BI) : Cx := X.blk i.1 i.2.1 scope (compEnvC scope i.2.2.2.1 i.2.2.1 X.env) i.2.2.2.2
theorem dn_lcX (hc : X.calm = true) (hN : X.N.Nodup) (hi : DI X wish tg iter wi src) (ok : BlkOk X.N X.env.scope scope own)
    (hg : ∀ i, ∃ g, DG (blkI X scope i) tg g tv dg) (ht : ∀ i, ∃ tt, DTs (blkI X scope i) noX ifs tt dt) (he : ∀ i, ∃ te, DE (blkI X scope i) noX elt te el) (htv : ∀ j ∈ tv, j ∈ own.map (·.2) := by decide)
    (hs : ∀ x, foldedSetIterable iter X.env x = pure x := by intro _; rfl) : DN X wish (.ListComp elt [⟨tg, iter, ifs, 0⟩] scope pos) (epN X wish (.ListComp elt [⟨tg, iter, ifs, 0⟩] scope pos) (dLcN src (own.map (·.2)) dg dt el)) (dLcN src (own.map (·.2)) dg dt el) := by
  refine epN_ok ?_
  obtain ⟨g, hg⟩ := DG.meet (Y := blkI X scope) (G := gx X) (fun _ => rfl) hg
  obtain ⟨tt, ht⟩ := DTs.meet (Y := blkI X scope) (G := gx X) (fun _ => rfl) ht
  obtain ⟨te, he⟩ := DE.meet (Y := blkI X scope) (G := gx X) (fun _ => rfl) he
  exact ⟨_, dn_lc hc hN hi ok (fun s H C cl fp => hg ⟨s, H, C, cl, fp⟩) (fun s H C cl fp => ht ⟨s, H, C, cl, fp⟩) (fun s H C cl fp => he ⟨s, H, C, cl, fp⟩) htv hs⟩
theorem ds_setLcX {i : Nat} {y : Str} {py spos : Pos} (hc : X.calm = true) (hN : X.N.Nodup) (hy : X.N[i]? = some y) (hyl : X.env.scope.names.lookup y = some .local) (hsw : swapsWith (.ListComp elt [⟨tg, iter, ifs, 0⟩] scope pos) (some (.Name y py)) spos.line X.env = pure true) (hi : DI X wish tg iter wi src) (ok : BlkOk X.N X.env.scope scope own)
    (hg : ∀ i, ∃ g, DG (blkI X scope i) tg g tv dg) (ht : ∀ i, ∃ tt, DTs (blkI X scope i) noX ifs tt dt) (he : ∀ i, ∃ te, DE (blkI X scope i) noX elt te el) (htv : ∀ j ∈ tv, j ∈ own.map (·.2) := by decide)
    (hs : ∀ x, foldedSetIterable iter X.env x = pure x := by intro _; rfl) : DS X wish (.Assign [.Name y py] (.ListComp elt [⟨tg, iter, ifs, 0⟩] scope pos) spos) (epS X wish (.Assign [.Name y py] (.ListComp elt [⟨tg, iter, ifs, 0⟩] scope pos) spos) (dAsgN i (dLcN src (own.map (·.2)) dg dt el))) (dAsgN i (dLcN src (own.map (·.2)) dg dt el)) := by
  refine epS_ok ?_
  obtain ⟨g, hg⟩ := DG.meet (Y := blkI X scope) (G := gx X) (fun _ => rfl) hg
  obtain ⟨tt, ht⟩ := DTs.meet (Y := blkI X scope) (G := gx X) (fun _ => rfl) ht
  obtain ⟨te, he⟩ := DE.meet (Y := blkI X scope) (G := gx X) (fun _ => rfl) he
  exact ⟨_, ds_setLc hc hN hy hyl hsw hi ok (fun s H C cl fp => hg ⟨s, H, C, cl, fp⟩) (fun s H C cl fp => ht ⟨s, H, C, cl, fp⟩) (fun s H C cl fp => he ⟨s, H, C, cl, fp⟩) htv hs⟩
end
theorem tab_home {K : PySem.W.Frag} {mg : Str → Option Value} {base : Heap} {x q nm : Str} {params : Arguments} {body : List Stmt} {scope : Scope} {dvs : List V} {kws : List (Str × V)} {fd : FuncData} {p : He.Defn} {C : Option Str}
    (F : FunD K x q params body scope dvs kws (He.fAd K p) fd) (h : HomeFn ⟨K, mg, base⟩ nm (He.fAd K p) C) : ∃ f oc od fd osl, HomeFn ⟨K, mg, base⟩ nm f C ∧ K.lookup f = some ⟨oc, od, .func fd, osl⟩ ∧ fd.code = .ref (He.cT K p).1 := by
  obtain ⟨oc, od, dV, kV, doc, pm, an, cdv, ct, osl, e, lk, hcd, _, _⟩ := F.ex
  obtain ⟨c, rfl⟩ := He.codeIn_ref hcd
  subst e
  exact ⟨_, oc, od, _, osl, h, lk, by show Value.ref c = .ref (He.codeOf K p); rw [He.codeOf_eq lk rfl]⟩
theorem pure_of {n N : Nat} {d : Ls → Fl} {xs : List Dv} {m m' : List Ob} {x : Dv} (h : withD n [] (noEx (dDef N d)) xs m = .ok x m') : dDef N d xs m = .ok x m' := by
  unfold withD noEx at h
  split at h
  · rw [List.append_nil] at h
    split at h
    · cases h
    · exact h
  · cases h
end DD

/-! D22: a class made by C(*rows, k=e) -/
namespace DD
open PySem L2 StX
open PyProof.Rows hiding St

/-- what a def (self, *pv, kn=..) binds: the keyword's value is w -/
def BindS (K : PySem.W.Frag) (fd : FuncData) (kw : List (Str × Value)) (sf kn pv : Str) (w : Value) : Prop :=
  ∀ (s : Shared) (u : Value) (rest : List Value) (M : Model) (A : Around) (Ex : Value → Shared → Prop) (Q : List (Str × Value) → Shared → Prop), K.In s.heap →
    wpAny M A (newTuple rest >>= fun t => pure [(sf, u), (kn, w), (pv, t)]) Q Ex s → wpAny M A (bindArgs fd ⟨u :: rest, kw⟩) Q Ex s
section
variable {P : Program} {w : World} {K : PySem.W.Frag} {mg : Str → Option Value} {base : Heap} {x qual : Str} {params : Arguments} {body : List Stmt} {scope : Scope} {kws : List (Str × V)} {f : Addr} {fd : FuncData} {N : List Str} {k : Nat} {d : Ls → Fl} {sf kn pv : Str}
/-- such a def's run: rows become a new tuple -/
theorem run_star (F : FunD K x qual params body scope [] kws f fd) (S : FnScope N [sf, kn, pv] scope)
    (h : ∀ (cdv : Value) (oc : Value) (od : Option Addr) (osl : Array (Option Value)) (A : Around) (outer : List Env) (s : Shared) (H : Hp) (E : XK), fd.code = cdv → PySem.W.codeIn K cdv qual = true → K.lookup f = some ⟨oc, od, .func fd, osl⟩ → Room k (A.deeper (envOfC qual scope s.heap.objs.size f cdv)) → ∃ t, DB (cxOf CX0 P w K mg base N qual scope f cdv A outer s H E).nox noX body t d)
    {A : Around} {outer : List Env} {s : Shared} {u : Value} {rest : List Value} {kw : List (Str × Value)} {kv : Value} {Q : VK} {E : XK} {W : Wd} {v vk : V} {vs : List V} {xd yd : Dv} {xs : List Dv}
    (hb : BindS K fd kw sf kn pv kv) (hr : Room (k + 1) A) (e0 : Env0 P w K mg base A outer s W.H) (ru : RelV v u) (rr : Vals vs rest) (rk : RelV vk kv) (ok : WOk ⟨K, mg, base⟩ W) (r1 : Rep ⟨K, mg, base⟩ W v xd) (r2 : RepL ⟨K, mg, base⟩ W vs xs) (r3 : Rep ⟨K, mg, base⟩ W vk yd) (hz : vs.length ≤ sizeLine)
    (hq : match dDef N.length d [xd, yd, .tup xs] W.mem with
      | .ok y m => ∀ v' W', WOk ⟨K, mg, base⟩ W' → W'.mem = m → CStp W W' → Rep ⟨K, mg, base⟩ W' v' y → Q v' W'.H
      | _ => False) :
    codeAny (model P w) A (.call (.ref f) ⟨u :: rest, kw⟩) (CR CX0 outer P w W.H s Q E) s := by
  obtain ⟨oc, od, dV, kV, doc, pm, an, cdv, ct, osl, e, lk, hcd, _, _⟩ := F.ex
  subst e
  have hn : W.H s.heap.objs.size = Option.none := e0.hok.fresh (Nat.le_refl _)
  have hl2 : rest.length ≤ sizeLine := by rw [← rr.length]; exact hz
  have KX : K.In s.heap := e0.mod.kin.keeps fun b o e => (e0.bs b o e).1
  refine run_bnd lk hcd S hr e0 (G := fun zs H2 => ∃ p, W.H p = Option.none ∧ zs = [v, vk, V.ref p] ∧ H2 = upd W.H p (.tup vs)) (fun A' Ex Q' h => ?_) fun s2 H2 zs ⟨p, hp, ez, eH⟩ hr' => ?_
  · refine hb s u rest _ A' Ex Q' KX ?_
    refine wpAny_bind (wpAny_newTuple (wpAny_pure ?_) hl2)
    have new : ObjOk P w (upd W.H s.heap.objs.size (.tup vs)) (s.heap.push ({ cls := .type "tuple", data := .seq rest.toArray } : Obj)) s.heap.objs.size (.tup vs) := ⟨hz, rest, rr, ⟨_, Heap.get?_push_size _ rfl, rfl, _, rfl⟩⟩
    have un := un_laid (fs := frs outer) (s := s) (o := ({ cls := .type "tuple", data := .seq rest.toArray } : Obj)) (u := .tup vs) hn
    exact h _ _ [v, vk, V.ref s.heap.objs.size] [u, kv, Value.ref s.heap.objs.size] (env0_laid e0 new) un rfl (fun _ _ z => z) (.cons ru (.cons rk (.cons rfl .nil))) rfl ⟨_, hn, rfl, rfl⟩
  · subst ez eH
    obtain ⟨t, hb'⟩ := h cdv oc od osl A outer s2 (upd W.H p (.tup vs)) E rfl hcd lk hr'
    have g : Same W.H (upd W.H p (.tup vs)) := Same.upd hp
    have hs : spD ⟨K, mg, base⟩ false 3 (dDef N.length d) [v, vk, V.ref p] (upd W.H p (.tup vs)) Q E := by
      refine ⟨W.gr (upd W.H p (.tup vs)), [xd, yd, .tup xs], rfl, ok.grow g, .cons (RepX.mono (Fz.grow g) r1) (.cons (RepX.mono (Fz.grow g) r3) (.cons (.tup (.inl (.inl upd_same)) (RepX.mono (Fz.grow g) r2)) .nil)), rfl, ?_⟩
      show match dDef N.length d [xd, yd, .tup xs] W.mem with | .ok x m => _ | .err x m => _ | .stuck => False
      cases hd : dDef N.length d [xd, yd, .tup xs] W.mem with
      | ok y m =>
        rw [hd] at hq
        exact fun v' W' ok' hm c rp => hq v' W' ok' hm (((CStp.refl W).grow g).trans c) rp
      | err y m => rw [hd] at hq; exact hq.elim
      | stuck => rw [hd] at hq; exact hq.elim
    exact ⟨t, hb'.ps.nox, body_ok (ex := false) (wish := noX) hb'.sim (fun _ _ _ _ z => (by cases z)) hs⟩
end
/-- a class whose __init__ takes (self, *rows, kn=..): made with the keyword kw -/
structure SKCal (P : Program) (w : World) (K : PySem.W.Frag) (mg : Str → Option Value) (base : Heap) (Cn kn : Str) (k : Nat) (f : Den) (dv : V) (dd : Dv) : Prop where
  hC : mg Cn = some (.ref (He.ga K Cn))
  of : ∃ (g : Addr) (fd : FuncData) (sf pv : Str), Mk K (He.ga K Cn) g ∧ (∀ kv, BindS K fd [(kn, kv)] sf kn pv kv) ∧ (∃ kv, RelV dv kv ∧ BindS K fd [] sf kn pv kv) ∧ (∀ W, Rep ⟨K, mg, base⟩ W dv dd) ∧
    ∀ {A : Around} {outer : List Env} {s : Shared} {u : Value} {rest : List Value} {kw : List (Str × Value)} {kv : Value} {Q : VK} {E : XK} {W : Wd} {v vk : V} {vs : List V} {xd yd : Dv} {xs : List Dv},
    BindS K fd kw sf kn pv kv → Room k A → Env0 P w K mg base A outer s W.H → RelV v u → Vals vs rest → RelV vk kv → WOk ⟨K, mg, base⟩ W → Rep ⟨K, mg, base⟩ W v xd → RepL ⟨K, mg, base⟩ W vs xs → Rep ⟨K, mg, base⟩ W vk yd → vs.length ≤ sizeLine →
    (match f [xd, yd, .tup xs] W.mem with
      | .ok y m => ∀ v' W', WOk ⟨K, mg, base⟩ W' → W'.mem = m → CStp W W' → Rep ⟨K, mg, base⟩ W' v' y → Q v' W'.H
      | _ => False) → codeAny (model P w) A (.call (.ref g) ⟨u :: rest, kw⟩) (CR CX0 outer P w W.H s Q E) s
/-- a call of the class itself -/
theorem run_mkS {X : Cx} {Cn kn : Str} {k : Nat} {f : Den} {dv : V} {dd : Dv} (C : SKCal X.prog X.w X.K X.mg X.base Cn kn k f dv dd) (hr : Room (k + 1) X.A) {pins : List (Addr × Obj)} {σ : L2.St} {s : Shared} {us : List Value} {kw : List (Str × Value)} {Q : VK} {W : Wd} {vs : List V} {xs : List Dv} {vk : V} {yd : Dv}
    (hk : (∃ kv, kw = [(kn, kv)] ∧ RelV vk kv) ∨ (kw = [] ∧ vk = dv)) (I : Inv X pins σ W.H s) (r : Vals vs us) (hz : vs.length ≤ sizeLine)
    (h : ∀ x dx, W.H x = Option.none → W.H dx = Option.none → dx ≠ x → ∃ W' xd, W'.H = upd (upd W.H dx (.own x)) x (.ins (He.ga X.K Cn) dx []) ∧ WOk (gx X) W' ∧ Rep (gx X) W' (.ref x) xd ∧ RepL (gx X) W' vs xs ∧ Rep (gx X) W' vk yd ∧
      (match f [xd, yd, .tup xs] W'.mem with
      | .ok y m => ∀ v' W2, WOk (gx X) W2 → W2.mem = m → CStp W' W2 → Rep (gx X) W2 v' y → v' = .non ∧ Q (.ref x) W2.H
      | _ => False)) :
    wpAny (model X.prog X.w) X.A (call (.ref (He.ga X.K Cn)) us kw) (EP X pins σ Q) X.xe s := by
  obtain ⟨g, fd, sf, pv, M, b1, ⟨kv0, rk0, b0⟩, hd, hrun⟩ := C.of
  obtain ⟨kv, rk, bk⟩ : ∃ kv, RelV vk kv ∧ BindS X.K fd kw sf kn pv kv := by
    rcases hk with ⟨kv, rfl, rk⟩ | ⟨rfl, rfl⟩
    · exact ⟨kv, rk, b1 kv⟩
    · exact ⟨kv0, rk0, b0⟩
  obtain ⟨W', xd, e1, ok, r1, r2, r3, q⟩ := h (s.heap.objs.size + 1) s.heap.objs.size (I.hok.fresh (Nat.le_succ _)) (I.hok.fresh (Nat.le_refl _)) (Nat.ne_of_lt (Nat.lt_succ_self _))
  have I2 := Inv.made (C := He.ga X.K Cn) I
  rw [← e1] at I2
  refine wpAny_call (make_map (f := g) I.kIn M.makes M.init (beq_iff_eq.mp M.fn) (codeAny_mono (hrun (Q := fun v' H2 => v' = .non ∧ Q (.ref (s.heap.objs.size + 1)) H2) (E := E0) bk (hr.make (He.ga X.K Cn) us kw) (I2.env0.make (He.ga X.K Cn) us kw) (v := .ref (s.heap.objs.size + 1)) rfl r rk ok r1 r2 r3 hz q) fun r s' hq' => ?_))
  cases r with
  | error e => exact False.elim hq'
  | ok fl =>
    cases fl with
    | ret u =>
      obtain ⟨v, H', I3, rv, ev, q3⟩ := I2.after hq'
      subst ev
      exact ⟨rv, ⟨V.ref (s.heap.objs.size + 1), H', I3, rfl, q3⟩⟩
    | next => exact False.elim hq'
    | brk => exact False.elim hq'
    | cont => exact False.elim hq'
end DD

/-! D23: calls C(*e, k=v), C(): at the call's place -/
namespace DD
open PySem L2 StX PySem.Calls
open PyProof.Rows hiding St
section
variable {M : Model} {A : Around} {E : Value → Shared → Prop} {s : Shared}
/-- one starred argument, keywords by name: the star's items are taken last -/
theorem ea_lone {f : Value} {x : Sem Value} {keywords : List (Option Str × Sem Value)} {Q : Args → Shared → Prop} (hall : keywords.all (·.1.isSome) = true)
    (h : wpAny M A x (fun v s1 => wpAny M A (evalAll (keywords.map (·.2))) (fun ks s2 => PySem.W.StarOf M A E v (fun vs s3 => Q ⟨vs, (keywords.filterMap (·.1)).zip ks⟩ s3) s2) E s1) E s) :
    wpAny M A (evalArgs f true [(true, x)] keywords) Q E s := by
  unfold evalArgs
  refine wpAny_bind (wpAny_mono h (fun v s1 h1 => wpAny_bind (wpAny_pure ?_)) fun _ _ z => z)
  refine wpAny_holding ?_
  simp only [hall, if_true]
  refine wpAny_bind (wpAny_mono h1 (fun ks s2 h2 => ?_) fun _ _ z => z)
  unfold PySem.W.StarOf at h2
  refine wpAny_bind (wpAny_bind (wpAny_mono h2 (fun b s3 h3 => ?_) fun _ _ z => z))
  obtain ⟨rfl, h3⟩ := h3
  simp only [Bool.false_eq_true, if_false]
  exact wpAny_holding (wpAny_mono h3 (fun vs s4 h4 => wpAny_pure h4) fun _ _ z => z)
/-- a call with a star -/
theorem cw_star {P : Heap → Prop} {f : Value} {first : List Value} {pos : Pos} {args : List (Bool × Sem Value)} {keywords : List (Option Str × Sem Value)} {Q : Value → Shared → Prop} (hst : args.any (·.1) = true)
    (hk : ∀ h, P h → ∃ k, (k = Keeper.frame ∨ k = Keeper.machine ∨ k = Keeper.boundFrame) ∧ PySem.W.Looks M h (keeperOf f) k)
    (h : wpAny M A (evalArgs f true args keywords) (fun a s1 => P s1.heap ∧ wpAny M A (call f (first ++ a.pos) a.kw) Q E s1) E s) : wpAny M A (callWith pos f first args keywords) Q E s := by
  unfold callWith
  refine wpAny_bind (wpAny_holding (wpAny_mono h (fun a s1 h1 => ?_) fun _ _ z => z))
  refine wpAny_bind (wpAny_standAt ?_)
  obtain ⟨k, hk1, L⟩ := hk _ h1.1
  simp only [hst, Bool.true_or]
  refine wpAny_bind (L.here ?_)
  have last : ∀ {t : Sem Value}, wpAny M A t Q E s1 → wpAny M A (t >>= fun r => holding [r] point >>= fun _ => pure r) Q E s1 := fun ht =>
    wpAny_bind (wpAny_mono ht (fun r s2 q => wpAny_bind (wpAny_holding (wpAny_point (wpAny_pure q)))) fun _ _ z => z)
  have mk1 (mk : Value) : wpAny M A (callMarked mk f (first ++ a.pos) a.kw) Q E s1 := by
    unfold callMarked
    exact Calls.wpAny_keep h1.2
  rcases hk1 with rfl | rfl | rfl
  · exact last (mk1 _)
  · exact last (wpAny_operating h1.2)
  · exact last (wpAny_operating h1.2)
end
/-- the items of a tuple or a list -/
def seqD : Dv → Option (List Dv)
  | .lst ds => some ds
  | .tup ds => some ds
  | .scr ns => some (ns.map .int)
  | _ => none
theorem seqD_view {G : Gx} {W : Wd} {v : V} {x : Dv} {ds : List Dv} (h : View G W v x) (e : seqD x = some ds) : ∃ a xs, v = .ref a ∧ (SqT G.K W.H a xs ∨ SqL G.K W.H a xs) ∧ RepL G W xs ds := by
  cases x <;> first | (cases e; done) | skip
  · cases e
    cases h with
    | tup h1 h2 => exact ⟨_, _, rfl, .inl h1, h2⟩
  · cases e
    obtain ⟨a, xs, h1, h2, h3⟩ := h
    exact ⟨a, xs, h1, .inr (SqL.of h2), h3⟩
  · cases e
    cases h with
    | scr h1 => exact ⟨_, _, rfl, .inr h1.seq, RepL.ints _⟩
def tMkS (G : Gx) (wish : WX) (C : Addr) (f : Den) (te tk : TE) : TE := fun σ H Q => te σ H fun x H1 => tk σ H1 fun y H2 => ∃ (W : Wd) (a : Addr) (vs : List V) (xs : List Dv) (yd : Dv), W.H = H2 ∧ x = V.ref a ∧ (SqT G.K W.H a vs ∨ SqL G.K W.H a vs) ∧ vs.length ≤ sizeLine ∧
  ∀ p dx, W.H p = none → W.H dx = none → dx ≠ p → ∃ (W' : Wd) (xd : Dv), W'.H = upd (upd W.H dx (.own p)) p (.ins C dx []) ∧ WOk G W' ∧ Rep G W' (.ref p) xd ∧ RepL G W' vs xs ∧ Rep G W' y yd ∧
    (match f [xd, yd, .tup xs] W'.mem with
      | .ok u m => ∀ v' W2, WOk G W2 → W2.mem = m → CStp W' W2 → Rep G W2 v' u → v' = .non ∧ Q (.ref p) W2.H
      | _ => False)
/-- C(*e, k=v) -/
def dMkS (Cn : Str) (f : Den) (d dk : Ls → R Dv) : Ls → R Dv := fun s => (d s).bind fun x s => (dk s).bind fun y s => match seqD (lookDv s.mem x) with
  | some ds => if ds.length ≤ 16777216 then (match f [.ref s.mem.length, y, .tup ds] (s.mem ++ [.ins Cn []]) with
    | .ok .non m => .ok (.ref s.mem.length) { s with mem := m }
    | _ => .stuck) else .stuck
  | none => .stuck
theorem sim_mkS {G : Gx} {wish : WX} {Cn : Str} {C : Addr} {f : Den} {te tk : TE} {d dk : Ls → R Dv} (hC : G.mg Cn = some (.ref C)) (h : Sim G (rV G) wish te d) (hk : Sim G (rV G) wish tk dk) : Sim G (rV G) wish (tMkS G wish C f te tk) (dMkS Cn f d dk) := fun B W σ s Q e p =>
  h B W σ s _ e (Post.bind (rep := rV G) (rep2 := rV G) p fun x s1 v W1 _ e1 z1 r1 p1 => hk B W1 σ s1 _ e1 (Post.bind (rep := rV G) (rep2 := rV G) p1 fun y s2 vy W2 _ e2 z2 r2 p2 => by
    have vw := lookDv_view e2.wok (RepX.mono z2.fz r1)
    rw [← e2.mem] at vw
    cases hs : seqD (lookDv s2.mem x) with
    | none => simp only [hs] at p2; exact p2.elim
    | some ds =>
      simp only [hs] at p2
      obtain ⟨a, vs, rfl, g1, g2⟩ := seqD_view vw hs
      split at p2
      case isFalse => exact p2.elim
      rename_i hz
      refine ⟨W2, a, vs, ds, y, rfl, rfl, g1, by rw [RepL.length g2, sizeLine_eq]; exact hz, fun q dx h1 h2 h3 => ?_⟩
      obtain ⟨W', k1, k2, k3, k4, k5, k6⟩ := new_cell e2.wok hC h1 h2 h3
      have hlen : W2.mem.length = s2.mem.length := by rw [e2.mem]
      have hx : W'.rho[s2.mem.length]? = some q := by rw [k2, ← hlen, ← e2.wok.len, List.getElem?_append_right (Nat.le_refl _), Nat.sub_self]; rfl
      have zf := k6.fz e2.wok
      refine ⟨W', .ref s2.mem.length, k1, k5, .ref hx, RepX.mono zf g2, RepX.mono zf r2, ?_⟩
      have hm : W'.mem = s2.mem ++ [.ins Cn []] := by rw [k3, e2.mem]
      rw [hm]
      cases hf : f [.ref s2.mem.length, y, .tup ds] (s2.mem ++ [.ins Cn []]) with
      | stuck => rw [hf] at p2; exact p2.elim
      | err u m => rw [hf] at p2; exact p2.elim
      | ok u m =>
        rw [hf] at p2
        cases u <;> first | exact p2.elim | skip
        intro v' W3 ok3 hm3 c3 rp
        cases rp
        obtain ⟨e3, z3⟩ := e2.call ok3 hm3 (k6.trans c3)
        exact ⟨rfl, p2 (.ref q) { W3 with tmp := W2.tmp } e3 z3 (.ref (c3.pre _ _ hx))⟩))
section
variable {X : Cx} {wish : WX} {Cn kn : Str} {j k : Nat} {f : Den} {dv : V} {dd : Dv} {e ek : Expr} {te tk : TE} {d dk : Ls → R Dv} {p p1 kp pos : Pos}
theorem de_mkS (C : SKCal X.prog X.w X.K X.mg X.base Cn kn j f dv dd) (hr : Room (k + 1) X.A) (h : DE X wish e te d) (hk : DE X wish ek tk dk) (hjk : j ≤ k := by decide) (hg : Gl X Cn := by rfl) (hdb : (Cn == ("__debug__" : Str)) = false := by decide)
    (hst : starEach [.Starred e p1] X.env = [(true, eval e X.env)] := by rfl) (hkw : backToKw pos (keywordEach [⟨some kn, ek, kp⟩] X.env) = [(some kn, do let v ← eval ek X.env; standAt pos; pure v)] := by rfl) :
    DE X wish (.Call (.Name Cn p) [.Starred e p1] [⟨some kn, ek, kp⟩] pos) (tMkS (gx X) wish (He.ga X.K Cn) f te tk) (dMkS Cn f d dk) := ⟨⟨fun pins s σ H Q I hw => by
  obtain ⟨g, fd, sf, pv, M, _⟩ := C.of
  refine wpAny_Call_Name_kw (ld_glob I hg C.hC ?_ hdb)
  rw [hst, hkw]
  refine cw_star (P := X.K.In) rfl (PySem.W.keeps_K M.kp) (ea_lone rfl ?_)
  refine wpAny_bind (wpAny_mono (h.pe.run pins s σ H _ I hw) (fun v s1 ⟨x, H1, I1, rx, q1⟩ => wpAny_bind (wpAny_standAt (wpAny_pure ?_))) fun _ _ z => z)
  refine wpAny_evalAll_cons (wpAny_bind (wpAny_mono (hk.pe.run pins s1 σ H1 _ I1 q1) (fun u s2 ⟨y, H2, I2, ry, W, a, vs, xs, yd, hW, ex, hsq, hz, q⟩ => wpAny_bind (wpAny_standAt (wpAny_pure (wpAny_evalAll_nil ?_)))) fun _ _ z => z))
  subst ex hW
  obtain rfl : v = Value.ref a := rx
  refine star_any I2 hsq fun us s3 I3 rv => ⟨I3.kIn, ?_⟩
  exact run_mkS C (hr.mono (by omega)) (.inl ⟨u, rfl, ry⟩) I3 rv hz q⟩, sim_mkS C.hC h.sim hk.sim⟩
end
end DD

/-! D24: x in o by an own __contains__; properties; defaults; records of C(*rows, k=..) -/
namespace DD
open PySem L2 StX PySem.Calls
open PyProof.Rows hiding St
/-! ### x in o -/
def rInO (neg : Bool) (G : Gx) (T : Str → Option Den) : R2 := fun x y H Q => ∃ W n a C f ix c m, y = V.ref a ∧ At G W H n a C ∧ T C = some f ∧ Rep G W x ix ∧ f [.ref n, ix] W.mem = .ok (.bl c) m ∧ ∀ W', WOk G W' → W'.mem = m → CStp W W' → Q (.bl (xor neg c)) W'.H
theorem in_own {X : Cx} {k : Nat} {T : Str → Option Den} (hT : OwnTab X k "__contains__" T) (hr : Room k X.A) : OpR X (compareOp .In) (rInO false (gx X) T) ∧ OpR X (compareOp .NotIn) (rInO true (gx X) T) := by
  have key : ∀ (neg : Bool) pins s σ H x y v u (Q : VK), Inv X pins σ H s → RelV x v → RelV y u → rInO neg (gx X) T x y H Q → ∃ Ca fa a ox od m0, u = Value.ref a ∧ (∃ h0 L, PyProof.Rows.Fr h0 L s.heap m0 ∧ X.K.In h0) ∧ PySem.W.InstAt s.heap a ox Ca od ∧ PySem.W.findIn X.K (.ref Ca) "__contains__" = some (some (.ref fa)) ∧ PySem.W.isFn X.K (.ref fa) = true ∧
      wpAny (model X.prog X.w) X.A (call (.ref fa) [.ref a, v]) (fun r s' => ∃ c, r = Value.bool c ∧ EP X pins σ Q (Value.bool (xor neg c)) s') X.xe s := by
    intro neg pins s σ H x y v u Q I rx ry h
    obtain ⟨W, n, a, C, f, ix, c, m, rfl, at0, hf, rix, hv, q⟩ := h
    cases ry
    obtain ⟨Ca, dx, l, g1, g2⟩ := at0.ins
    obtain ⟨Ca', fa, k1, k2, k3, F⟩ := hT C f hf
    rw [show X.mg C = some (.ref Ca) from g1] at k1; cases k1
    obtain ⟨mA, J, _⟩ := ins_get I.hok g2
    obtain ⟨od, J, _⟩ := J.look
    obtain ⟨m0, hF⟩ := I.fr
    have hH := at0.H
    subst hH
    refine ⟨Ca, fa, a, _, od, m0, rfl, ⟨_, _, hF, I.ok.mod.kin⟩, J, k2, k3, wpAny_mono (F.run X.A ⟨hr, rfl⟩ pins s σ W [.ref a, v] [.ref a, x] [.ref n, ix] (fun z H' => z = .bl c ∧ Q (.bl (xor neg c)) H') _ I (.cons rfl (.cons rx .nil)) at0.ok (.cons (.ref at0.rho) (.cons rix .nil)) (by
      rw [hv]
      intro z W' ok' hm' c' rp
      cases rp
      exact ⟨rfl, q W' ok' hm' c'⟩)) (fun z s' hv' => ?_) fun _ _ e => e⟩
    obtain ⟨z', H', I', rz, ez, hq⟩ := hv'
    subst ez
    cases rz
    exact ⟨c, rfl, .bl _, H', I', rfl, hq⟩
  refine ⟨fun pins s σ H x y v u Q I rx ry h => ?_, fun pins s σ H x y v u Q I rx ry h => ?_⟩
  · obtain ⟨Ca, fa, a, ox, od, m0, rfl, ⟨h0, L0, hF, hK⟩, J, k2, k3, z⟩ := key false pins s σ H x y v u Q I rx ry h
    refine PySem.W.in_K hF hK J k2 k3 (wpAny_mono z (fun r s' hr => ?_) fun _ _ e => e)
    obtain ⟨c, rfl, hq⟩ := hr
    exact wpAny_pure (by simpa using hq)
  · obtain ⟨Ca, fa, a, ox, od, m0, rfl, ⟨h0, L0, hF, hK⟩, J, k2, k3, z⟩ := key true pins s σ H x y v u Q I rx ry h
    refine PySem.W.notIn_K hF hK J k2 k3 (wpAny_mono z (fun r s' hr => ?_) fun _ _ e => e)
    obtain ⟨c, rfl, hq⟩ := hr
    exact wpAny_pure (by simpa using hq)

/-- x in o, x not in o: o an object with an own __contains__ -/
def dInA (neg : Bool) (T : Str → Option Den) (d : Ls → R Dv) (db : Ls → R Rd) : Ls → R Dv := fun s => (d s).bind fun x s => (db s).bind fun y s => match y.look s with
  | some (.ref n) => (match (insC s.mem[n]?).bind T with
    | some f => (match f [.ref n, x] s.mem with
      | .ok (.bl c) m => .ok (.bl (xor neg c)) { s with mem := m }
      | _ => .stuck)
    | none => .stuck)
  | _ => .stuck
theorem sim_inA {G : Gx} {wish : WX} {neg : Bool} {T : Str → Option Den} {ta tb : TE} {d : Ls → R Dv} {db : Ls → R Rd} (ha : Sim G (rV G) wish ta d) (hb : Sim G (rR G) wish tb db) : Sim G (rV G) wish (tOp (rInO neg G T) ta tb) (dInA neg T d db) := fun B W σ s Q e p =>
  ha B W σ s _ e (Post.bind (rep := rV G) (rep2 := rV G) p fun x s1 v W1 _ e1 z1 r1 p1 =>
    hb B W1 σ s1 _ e1 (Post.bind (rep := rR G) (rep2 := rV G) p1 fun y s2 w W2 _ e2 z2 r2 p2 => by
      cases hl : y.look s2 with
      | none => simp only [hl] at p2; exact p2.elim
      | some yd =>
        have vw := look_view e2 r2 hl
        cases yd <;> simp only [hl] at p2 <;> first | exact p2.elim | skip
        rename_i n
        obtain ⟨a, rfl, hr⟩ := vw.ref_rho
        cases hT : (insC s2.mem[n]?).bind T with
        | none => simp only [hT] at p2; exact p2.elim
        | some f =>
          simp only [hT] at p2
          obtain ⟨C, hC, hf⟩ := bind1 hT
          obtain ⟨fs, hm⟩ := insC_some hC
          cases hv : f [.ref n, x] s2.mem with
          | stuck => rw [hv] at p2; exact p2.elim
          | err u m => rw [hv] at p2; exact p2.elim
          | ok u m =>
            rw [hv] at p2
            cases u <;> first | exact p2.elim | skip
            rename_i c
            refine ⟨W2, n, a, C, f, x, c, m, rfl, ⟨rfl, e2.wok, hr, fs, by rw [← e2.mem]; exact hm⟩, hf, RepX.mono z2.fz r1, by rw [← e2.mem]; exact hv, fun W' ok hm' c' => ?_⟩
            obtain ⟨e3, z3⟩ := e2.call ok hm' c'
            exact p2 _ { W' with tmp := W2.tmp } e3 z3 (.bl _)))
section
variable {X : Cx} {wish : WX} {k : Nat} {T : Str → Option Den} {a b : Expr} {ta tb : TE} {d : Ls → R Dv} {db : Ls → R Rd} {pos : Pos}
theorem de_inA (hT : OwnTab X k "__contains__" T) (hr : Room k X.A) (ha : DE X wish a ta d) (hb : DR X wish b tb db) (hm : behindInMarks .In b = false := by rfl) : DE X wish (.Compare a [.In] [b] pos) (tOp (rInO false (gx X) T) ta tb) (dInA false T d db) := ⟨pe_cmpR (in_own hT hr).1 ha.pe hb.pe hm, sim_inA ha.sim hb.sim⟩
theorem de_notInA (hT : OwnTab X k "__contains__" T) (hr : Room k X.A) (ha : DE X wish a ta d) (hb : DR X wish b tb db) (hm : behindInMarks .NotIn b = false := by rfl) : DE X wish (.Compare a [.NotIn] [b] pos) (tOp (rInO true (gx X) T) ta tb) (dInA true T d db) := ⟨pe_cmpR (in_own hT hr).2 ha.pe hb.pe hm, sim_inA ha.sim hb.sim⟩
theorem dt_inA (hT : OwnTab X k "__contains__" T) (hr : Room k X.A) (ha : DE X wish a ta d) (hb : DR X wish b tb db) (hm : behindInMarks .In b = false := by rfl) : DT X wish (.Compare a [.In] [b] pos) (tTest (tOp (rInO false (gx X) T) ta tb)) (dTest (dInA false T d db)) := ⟨pt_cmpR (in_own hT hr).1 ha.pe hb.pe hm, sim_test (sim_inA ha.sim hb.sim)⟩
theorem dt_notInA (hT : OwnTab X k "__contains__" T) (hr : Room k X.A) (ha : DE X wish a ta d) (hb : DR X wish b tb db) (hm : behindInMarks .NotIn b = false := by rfl) : DT X wish (.Compare a [.NotIn] [b] pos) (tTest (tOp (rInO true (gx X) T) ta tb)) (dTest (dInA true T d db)) := ⟨pt_cmpR (in_own hT hr).2 ha.pe hb.pe hm, sim_test (sim_inA ha.sim hb.sim)⟩
end
/-! ### properties -/
structure PCal (P : Program) (w : World) (K : PySem.W.Frag) (mg : Str → Option Value) (base : Heap) (Cn m : Str) (k : Nat) (f : Den) : Prop where
  hC : mg Cn = some (.ref (He.ga K Cn))
  of : ∃ (p g : Addr) (fd : FuncData) (ps : List Str) (h : Den), Cls K (He.ga K Cn) ∧ PropOf K (He.ga K Cn) m p g ∧ FnOk P w K mg base CX0 k g fd ps (spD ⟨K, mg, base⟩ false 1 h) ∧ Binds K fd ps [] ∧ f = withD 1 [] (noEx h)
theorem pcal_mk {P : Program} {w : World} {K : PySem.W.Frag} {mg : Str → Option Value} {base : Heap} {Cn m : Str} {k : Nat} {g p : Addr} {fd : FuncData} {ps : List Str} {h : Den} (hC : mg Cn = some (.ref (He.ga K Cn))) (hc : Cls K (He.ga K Cn)) (hp : PropOf K (He.ga K Cn) m p g) (F : FnOk P w K mg base CX0 k g fd ps (spD ⟨K, mg, base⟩ false 1 h)) (hb : Binds K fd ps []) : PCal P w K mg base Cn m k (withD 1 [] (noEx h)) := ⟨hC, p, g, fd, ps, h, hc, hp, F, hb, rfl⟩
def dProp (Cn : Str) (f : Den) (d : Ls → R Dv) : Ls → R Dv := fun s => (d s).bind fun x s => match x with
  | .ref n => (match s.mem[n]? with
    | some (.ins C _) => if C = Cn then (f [.ref n] s.mem).r s else .stuck
    | _ => .stuck)
  | _ => .stuck
theorem sim_prop {G : Gx} {wish : WX} {C : Addr} {Cn : Str} {h : Den} {ta : TE} {d : Ls → R Dv} (hC : G.mg Cn = some (.ref C)) (hd : Sim G (rV G) wish ta d) : Sim G (rV G) wish (tProp C (spD G false 1 h) [] E0 ta) (dProp Cn (withD 1 [] (noEx h)) d) := fun B W σ s Q e p =>
  hd B W σ s _ e (Post.bind (rep := rV G) (rep2 := rV G) p fun x s1 v W1 _ e1 z1 r1 p1 => by
    cases x <;> first | exact p1.elim | skip
    rename_i n _
    cases hm : s1.mem[n]? with
    | none => simp only [hm] at p1; exact p1.elim
    | some o =>
      cases o <;> simp only [hm] at p1 <;> first | exact p1.elim | skip
      rename_i C' fs
      split at p1
      case isFalse => exact p1.elim
      rename_i hc
      subst hc
      have r1' := r1
      cases r1 with
      | ref hr =>
        rw [e1.mem] at hm
        obtain ⟨Ca, dx, l, g1, g2, g3⟩ := e1.wok.cells n _ _ hm hr
        rw [hC] at g1
        cases g1
        have w := want_of e1 p1
        refine ⟨_, dx, l, rfl, g2, W1, [.ref n], rfl, e1.wok, .cons r1' .nil, rfl, ?_⟩
        rw [← e1.mem]
        unfold withD noEx at w
        simp only [List.length_cons, List.length_nil, Nat.zero_add, Nat.add_zero, if_true, List.append_nil] at w
        cases hv : h [.ref n] s1.mem with
        | ok u m => rw [hv] at w; exact w
        | err u m => rw [hv] at w; exact w.elim
        | stuck => rw [hv] at w; exact w)
open Classical in
noncomputable def epE (X : Cx) (wish : WX) (e : Expr) (d : Ls → R Dv) : TE := if h : ∃ t, DE X wish e t d then choose h else fun _ _ _ => False
theorem epE_ok {X : Cx} {wish : WX} {e : Expr} {d : Ls → R Dv} (h : ∃ t, DE X wish e t d) : DE X wish e (epE X wish e d) d := by
  unfold epE; rw [dif_pos h]; exact Classical.choose_spec h
theorem de_prop {X : Cx} {wish : WX} {j k : Nat} {Cn m : Str} {f : Den} {o : Expr} {ta : TE} {d : Ls → R Dv} {pos : Pos} (C : PCal X.prog X.w X.K X.mg X.base Cn m j f) (hr : Room (k + 1) X.A) (h : DE X wish o ta d) (hjk : j ≤ k := by decide) (hab : attributeBase o m X.env (eval o X.env) = eval o X.env := by rfl) :
    DE X wish (.Attribute o m pos) (epE X wish (.Attribute o m pos) (dProp Cn f d)) (dProp Cn f d) := epE_ok (by
  obtain ⟨p, g, fd, ps, h', hc, hp, F, hb, rfl⟩ := C.of
  exact ⟨_, pe_prop h.pe hc hp F (hr.mono (by omega)) hb .nil pass0 hab, sim_prop C.hC h.sim⟩)
end DD

/-! D25: making the records: defaults, C(*rows, k=..), properties -/
namespace DD
open PySem L2 StX PySem.Calls ClX
open PyProof.Rows hiding St
section
variable {P : Program} {w : World} {K : PySem.W.Frag} {mg : Str → Option Value} {base : Heap} {Cn m x q : Str} {k n : Nat} {g : Addr} {fd : FuncData} {ps : List Str} {h : Den} {params : Arguments} {body : List Stmt} {scope : Scope} {dvs : List V} {kws : List (Str × V)}
/-- a static method some of whose last values are its defaults -/
theorem scal_mkD {dds : List Dv} {ev : List V} (hC : mg Cn = some (.ref (He.ga K Cn))) (S : SMet K (He.ga K Cn) (.type "type") m (He.ma K (He.ga K Cn) m) g) (F : FnOk P w K mg base CX0 k g fd ps (spD ⟨K, mg, base⟩ false n h)) (hb : ∃ ds, Vals ev ds ∧ Binds K fd ps ds) (hd : ∀ W, RepL ⟨K, mg, base⟩ W ev dds) : SCal P w K mg base Cn m k (withD n dds (noEx h)) := by
  obtain ⟨ds, h1, h2⟩ := hb
  exact ⟨_, g, _, fd, ps, n, h, ds, ev, dds, hC, S, F, h2, h1, hd, rfl⟩
theorem cal_mkD {dds : List Dv} {ev : List V} (hm : mg x = some (.ref g)) (hk : PySem.W.keepIn K (.ref g) = true) (F : FnOk P w K mg base CX0 k g fd ps (spD ⟨K, mg, base⟩ false n h)) (hb : ∃ ds, Vals ev ds ∧ Binds K fd ps ds) (hd : ∀ W, RepL ⟨K, mg, base⟩ W ev dds) : Cal P w K mg base x k (withD n dds (noEx h)) := by
  obtain ⟨ds, h1, h2⟩ := hb
  exact ⟨g, fd, ps, n, h, ds, ev, dds, hm, hk, F, h2, h1, hd, rfl⟩
theorem kcal_mkD {dds : List Dv} {ev : List V} (hC : mg Cn = some (.ref (He.ga K Cn))) (M : Mk K (He.ga K Cn) g) (F : FnOk P w K mg base CX0 k g fd ps (spD ⟨K, mg, base⟩ false n h)) (hb : ∃ ds, Vals ev ds ∧ Binds K fd ps ds) (hd : ∀ W, RepL ⟨K, mg, base⟩ W ev dds) : KCal P w K mg base Cn k (withD n dds (noEx h)) := by
  obtain ⟨ds, h1, h2⟩ := hb
  exact ⟨g, fd, ps, n, h, ds, ev, dds, hC, M, F, h2, h1, hd, rfl⟩
theorem mcal_mkD {dds : List Dv} {ev : List V} (hC : mg Cn = some (.ref (He.ga K Cn))) (hc : Cls K (He.ga K Cn)) (hm : Meth K (He.ga K Cn) m g) (F0 : FunD K x q params body scope dvs kws g fd) (F : FnOk P w K mg base CX0 k g fd ps (spD ⟨K, mg, base⟩ false n h)) (hb : ∃ ds, Vals ev ds ∧ Binds K fd ps ds) (hd : ∀ W, RepL ⟨K, mg, base⟩ W ev dds) : MCal P w K mg base Cn m k (withD n dds (noEx h)) := by
  obtain ⟨ds, h1, h2⟩ := hb
  exact ⟨g, fd, ps, n, h, ds, ev, dds, hC, hc, hm, fnIn_of F0, F, h2, h1, hd, rfl⟩
/-! (self, *pv, kn=..) -/
/-- the call with the keyword -/
theorem bindS_kw {sf kn pv : Str} {dv : V} (F : FunD K x q params body scope [] [(kn, dv)] g fd)
    (h : ∀ (kV doc pm : Value) (an : Option Addr) (cdv ct u kv : Value), (bindArgs (PySem.W.fnOf x q params body scope .none kV doc pm an cdv ct) ⟨[u], [(kn, kv)]⟩ = (newTuple [] >>= fun t => pure [(sf, u), (kn, kv), (pv, t)])) ∧ ∀ r rs, bindArgs (PySem.W.fnOf x q params body scope .none kV doc pm an cdv ct) ⟨u :: r :: rs, [(kn, kv)]⟩ = (newTuple (r :: rs) >>= fun t => pure [(sf, u), (kn, kv), (pv, t)])) (kv : Value) : BindS K fd [(kn, kv)] sf kn pv kv := by
  obtain ⟨oc, od, dV, kV, doc, pm, an, cdv, ct, osl, rfl, lk, hcd, hD, hK⟩ := F.ex
  rcases hD with ⟨_, rfl⟩ | ⟨e, _⟩
  case inr => exact absurd rfl e
  intro s u rest M A Ex Q X hq
  obtain ⟨h1, h2⟩ := h kV doc pm an cdv ct u kv
  cases rest with
  | nil => rw [h1]; exact hq
  | cons r rs => rw [h2]; exact hq
/-- a look-up in the dict of the keyword defaults, then the tuple -/
def Look1 (D : Addr) (kn : Str) (kv : Value) (t r : Sem (List (Str × Value))) : Prop := ∃ (β γ : Type) (k1 : Option Value → Sem β) (k2 : β → Sem γ) (k3 : γ → Sem (List (Str × Value))) (a : β), t = ((nsGet D kn >>= k1) >>= k2) >>= k3 ∧ k1 (some kv) = pure a ∧ (k2 a >>= k3) = r
/-- the call without -/
theorem bindS_no {sf kn pv : Str} {dv : V} (F : FunD K x q params body scope [] [(kn, dv)] g fd)
    (h : ∀ (D : Addr) (doc pm : Value) (an : Option Addr) (cdv ct u kv : Value), Look1 D kn kv (bindArgs (PySem.W.fnOf x q params body scope .none (.ref D) doc pm an cdv ct) ⟨[u], []⟩) (newTuple [] >>= fun t => pure [(sf, u), (kn, kv), (pv, t)]) ∧ ∀ r rs, Look1 D kn kv (bindArgs (PySem.W.fnOf x q params body scope .none (.ref D) doc pm an cdv ct) ⟨u :: r :: rs, []⟩) (newTuple (r :: rs) >>= fun t => pure [(sf, u), (kn, kv), (pv, t)])) : ∃ kv, RelV dv kv ∧ BindS K fd [] sf kn pv kv := by
  obtain ⟨oc, od, dV, kV, doc, pm, an, cdv, ct, osl, rfl, lk, hcd, hD, hK⟩ := F.ex
  rcases hD with ⟨_, rfl⟩ | ⟨e, _⟩
  case inr => exact absurd rfl e
  rcases hK with e | ⟨D, rfl, hq⟩
  · cases e
  · obtain ⟨kv, e1, e2⟩ := hq (kn, dv) (List.mem_singleton.mpr rfl)
    refine ⟨kv, e2, fun s u rest M A Ex Q X hq2 => ?_⟩
    have key : ∀ t r, Look1 D kn kv t r → wpAny M A r Q Ex s → wpAny M A t Q Ex s := fun t r ⟨β, γ, k1, k2, k3, a, f1, f2, f3⟩ hr => by
      rw [f1, bind_assoc]
      refine wpAny_bind (wpAny_bind ((PySem.W.looks_nsIn X e1).here ?_))
      rw [f2]
      refine wpAny_pure ?_
      rw [f3]
      exact hr
    obtain ⟨h1, h2⟩ := h D doc pm an cdv ct u kv
    cases rest with
    | nil => exact key _ _ h1 hq2
    | cons r rs => exact key _ _ (h2 r rs) hq2
theorem skcal_mk {N : List Str} {d : Ls → Fl} {sf kn pv : Str} {dv : V} {dd : Dv} (hC : mg Cn = some (.ref (He.ga K Cn))) (M : Mk K (He.ga K Cn) g) (F : FunD K x q params body scope [] [(kn, dv)] g fd) (S : FnScope N [sf, kn, pv] scope)
    (hb1 : ∀ kv, BindS K fd [(kn, kv)] sf kn pv kv) (hb0 : ∃ kv, RelV dv kv ∧ BindS K fd [] sf kn pv kv) (hd : ∀ W, Rep ⟨K, mg, base⟩ W dv dd)
    (h : ∀ (cdv : Value) (oc : Value) (od : Option Addr) (osl : Array (Option Value)) (A : Around) (outer : List Env) (s : Shared) (H : Hp) (E : XK), fd.code = cdv → PySem.W.codeIn K cdv q = true → K.lookup g = some ⟨oc, od, .func fd, osl⟩ → Room k (A.deeper (envOfC q scope s.heap.objs.size g cdv)) → ∃ t, DB (cxOf CX0 P w K mg base N q scope g cdv A outer s H E).nox noX body t d) :
    SKCal P w K mg base Cn kn (k + 1) (withD 3 [] (noEx (dDef N.length d))) dv dd := ⟨hC, g, fd, sf, pv, M, hb1, hb0, hd, fun {A outer s u rest kw kv Q E W v vk vs xd yd xs} b hr e0 ru rr rk ok r1 r2 r3 hz hq => run_star F S h b hr e0 ru rr rk ok r1 r2 r3 hz (by
  unfold withD noEx at hq
  simp only [List.length_cons, List.length_nil, Nat.zero_add, Nat.add_zero, Nat.reduceAdd, if_true, List.append_nil] at hq
  cases hv : dDef N.length d [xd, yd, .tup xs] W.mem with
  | ok y m => rw [hv] at hq; exact hq
  | err y m => rw [hv] at hq; exact hq.elim
  | stuck => rw [hv] at hq; exact hq.elim)⟩
end
/-- C() of such a class -/
def dMkS0 (Cn : Str) (f : Den) (dd : Dv) : Ls → R Dv := fun s => match f [.ref s.mem.length, dd, .tup []] (s.mem ++ [.ins Cn []]) with
  | .ok .non m => .ok (.ref s.mem.length) { s with mem := m }
  | _ => .stuck
def tMkS0 (G : Gx) (C : Addr) (f : Den) (dv : V) : TE := fun σ H Q => ∃ (W : Wd) (yd : Dv), W.H = H ∧ ∀ p dx, W.H p = none → W.H dx = none → dx ≠ p → ∃ (W' : Wd) (xd : Dv), W'.H = upd (upd W.H dx (.own p)) p (.ins C dx []) ∧ WOk G W' ∧ Rep G W' (.ref p) xd ∧ RepL G W' [] [] ∧ Rep G W' dv yd ∧
    (match f [xd, yd, .tup []] W'.mem with
      | .ok u m => ∀ v' W2, WOk G W2 → W2.mem = m → CStp W' W2 → Rep G W2 v' u → v' = .non ∧ Q (.ref p) W2.H
      | _ => False)
theorem de_mkS0 {X : Cx} {wish : WX} {Cn kn : Str} {j k : Nat} {f : Den} {dv : V} {dd : Dv} {p pos : Pos} (C : SKCal X.prog X.w X.K X.mg X.base Cn kn j f dv dd) (hr : Room (k + 1) X.A) (hjk : j ≤ k := by decide) (hg : Gl X Cn := by rfl) (hdb : (Cn == ("__debug__" : Str)) = false := by decide) :
    DE X wish (.Call (.Name Cn p) [] [] pos) (tMkS0 (gx X) (He.ga X.K Cn) f dv) (dMkS0 Cn f dd) := ⟨⟨fun pins s σ H Q I hw => by
  obtain ⟨g, fd, sf, pv, M, _⟩ := C.of
  obtain ⟨W, yd, hW, q⟩ := hw
  subst hW
  refine wpAny_Call_Name_kw (ld_glob I hg C.hC ?_ hdb)
  exact PySem.W.callWith_K0 I.kIn M.kp (run_mkS (vs := []) (xs := []) (us := []) (kw := []) (yd := yd) C (hr.mono (by omega)) (.inr ⟨rfl, rfl⟩) I .nil (Nat.zero_le _) q)⟩, fun B W σ s Q e p => by
  obtain ⟨g, fd, sf, pv, M, _, _, hd, _⟩ := C.of
  refine ⟨W, dd, rfl, fun q dx h1 h2 h3 => ?_⟩
  obtain ⟨W', k1, k2, k3, k4, k5, k6⟩ := new_cell e.wok C.hC h1 h2 h3
  have hlen : W.mem.length = s.mem.length := by rw [e.mem]
  have hx : W'.rho[s.mem.length]? = some q := by rw [k2, ← hlen, ← e.wok.len, List.getElem?_append_right (Nat.le_refl _), Nat.sub_self]; rfl
  refine ⟨W', .ref s.mem.length, k1, k5, .ref hx, .nil, hd W', ?_⟩
  have hm : W'.mem = s.mem ++ [.ins Cn []] := by rw [k3, e.mem]
  rw [hm]
  unfold dMkS0 at p
  cases hf : f [.ref s.mem.length, dd, .tup []] (s.mem ++ [.ins Cn []]) with
  | stuck => rw [hf] at p; exact p.elim
  | err u m => rw [hf] at p; exact p.elim
  | ok u m =>
    rw [hf] at p
    cases u <;> first | exact p.elim | skip
    intro v' W3 ok3 hm3 c3 rp
    cases rp
    obtain ⟨e3, z3⟩ := e.call ok3 hm3 (k6.trans c3)
    exact ⟨rfl, p (.ref q) { W3 with tmp := W.tmp } e3 z3 (.ref (c3.pre _ _ hx))⟩⟩
/-! properties: the facts -/
/-- C.m is a property -/
def prB (K : PySem.W.Frag) (C : Addr) (m : Str) : Bool := decide (PySem.W.findIn K (.ref C) m = some (some (.ref (He.ma K C m)))) && (decide (PySem.W.specialIn K (.ref (He.ma K C m)) "__get__" = some (some (.builtin "property.__get__"))) && (decide (PySem.W.takesIn K (.ref (He.ma K C m)) = some true) && (match PySem.W.recIn K (He.ma K C m) "property" with
  | some (.ref g :: _) => decide (g = He5.wf K C "property" m)
  | _ => false)))
theorem prB_ok {K : PySem.W.Frag} {C : Addr} {m : Str} (h : prB K C m = true) : PropOf K C m (He.ma K C m) (He5.wf K C "property" m) := by
  obtain ⟨h1, h⟩ := He.ba h
  obtain ⟨h2, h⟩ := He.ba h
  obtain ⟨h3, h4⟩ := He.ba h
  refine ⟨of_decide_eq_true h1, of_decide_eq_true h2, of_decide_eq_true h3, ?_⟩
  split at h4
  · rename_i g rest e
    rw [← of_decide_eq_true h4]
    exact ⟨rest, e⟩
  · cases h4
end DD

/-! D26: texts as constants of a class -/
namespace DD
open PySem L2 ClX
open PyProof.Rows hiding St
/-- C.f is the text x -/
def conB (K : PySem.W.Frag) (C : Addr) (f x : Str) : Bool := PySem.W.readsIn K C (.type "type") && (decide (PySem.W.specialIn K (.ref C) "__getattribute__" = some (some (.builtin "type.__getattribute__"))) && (match PySem.W.findCls K (.ref C) (.type "type") f with
  | some (.val (.str y _)) => decide (y = x)
  | _ => false))
structure CCon (K : PySem.W.Frag) (mg : Str → Option Value) (Cn f x : Str) : Prop where
  hC : mg Cn = some (.ref (He.ga K Cn))
  rd : CRead K (He.ga K Cn) (.type "type")
  vl : ∃ u, CVal K (He.ga K Cn) (.type "type") f (.str x) u
theorem ccon_of {K : PySem.W.Frag} {mg : Str → Option Value} {Cn f x : Str} (hC : mg Cn = some (.ref (He.ga K Cn))) (h : conB K (He.ga K Cn) f x = true) : CCon K mg Cn f x := by
  obtain ⟨h1, h⟩ := He.ba h
  obtain ⟨h2, h3⟩ := He.ba h
  refine ⟨hC, ⟨h1, of_decide_eq_true h2⟩, ?_⟩
  split at h3
  · rename_i y t e
    have := of_decide_eq_true h3
    subst this
    exact ⟨_, e, ⟨_, rfl⟩⟩
  · cases h3
theorem e_con {X : Cx} {wish : WX} {Cn f x : Str} {np pos : Pos} (C : CCon X.K X.mg Cn f x) (hg : Gl X Cn := by rfl) (hd : (Cn == ("__debug__" : Str)) = false := by decide) (hb : attributeBase (.Name Cn np) f X.env (eval (.Name Cn np) X.env) = eval (.Name Cn np) X.env := by rfl) :
    DE X wish (.Attribute (.Name Cn np) f pos) (tCVal X.K (tC (.ref (He.ga X.K Cn))) f) (dC (.str x)) := by
  obtain ⟨u, k⟩ := C.vl
  exact de_cconst hg C.hC C.rd k (fun _ => .str _) hd hb
end DD

/-! D27: exceptions as objects of the store -/
namespace DD
open PySem L2
open PyProof.Rows hiding St

/-! ### no exception is a code object -/
/-- a heap with the same object everywhere up to n -/
def flood (n : Nat) (o : Obj) : Heap := { objs := Array.replicate n o }
def codeLike : Obj := { cls := .none, dict := none, data := .fields #[.none, .str "" 0] }
theorem flood_get {n a : Nat} {q : Str} (h : a < n) : (flood n { cls := .none, dict := none, data := .fields #[.none, .str q 0] }).get? a = some { cls := .none, dict := none, data := .fields #[.none, .str q 0] } := by
  unfold flood Heap.get?
  simp [h]
theorem code_true {n a : Nat} {q : Str} (h : a < n) : ∃ (oc : Obj) (vs : Array Value) (t : Tok), (flood n { cls := .none, dict := none, data := .fields #[.none, .str q 0] }).get? a = some oc ∧ oc.data = .fields vs ∧ vs[1]? = some (.str q t) :=
  ⟨_, _, 0, flood_get h, rfl, rfl⟩
theorem not_fixed_exo {e C : Addr} {d : Option Addr} : ¬ Fixed (exo e C d) := fun h => by
  generalize hx : exo e C d = x at h
  cases h with
  | frz o u => cases hx
  | code c q =>
    have hx' : HO.ext _ = HO.ext _ := hx
    injection hx' with hx'
    have h1 := congrFun hx' (flood (e + c + 1) { cls := .none, dict := none, data := .fields #[.none, .str q 0] })
    have h2 := (iff_of_eq h1).mpr (code_true (by omega))
    obtain ⟨t1, h3⟩ := h2
    rw [flood_get (by omega)] at h3
    cases h3
theorem not_fixed_exd {dx : Addr} {fs : List (Str × V)} : ¬ Fixed (exd dx fs) := fun h => by
  generalize hx : exd dx fs = x at h
  cases h with
  | frz o u => cases hx
  | code c q =>
    have hx' : HO.ext _ = HO.ext _ := hx
    injection hx' with hx'
    have h1 := congrFun hx' (flood (dx + c + 1) { cls := .none, dict := none, data := .fields #[.none, .str q 0] })
    have h2 := (iff_of_eq h1).mpr (code_true (by omega))
    obtain ⟨mA, ⟨o, es, ep, h3, h4, _⟩, _⟩ := h2
    rw [flood_get (by omega)] at h3
    cases h3
    cases h4

/-! ### a new object in the store -/
theorem grow_cell {G : Gx} {W : Wd} (ok : WOk G W) {x : Addr} {u : HO} {o : Ob} (hx : W.H x = none) (r : ∀ W' : Wd, W'.H = upd W.H x u → W'.rho = W.rho ++ [x] → Fz W.hot W.rho W.H W'.hot W'.rho W'.H → ObRep G W' x o) :
    ∃ W', W'.H = upd W.H x u ∧ W'.rho = W.rho ++ [x] ∧ W'.mem = W.mem ++ [o] ∧ W'.tmp = W.tmp ∧ WOk G W' ∧ CStp W W' := by
  have sm : Same W.H (upd W.H x u) := fun b v h => by rw [upd_ne (ne_of_none h hx)]; exact h
  have nohot : ¬ W.hot x := fun h => by obtain ⟨v, q⟩ := ok.hotd x h; rw [hx] at q; cases q
  have norho : x ∉ W.rho := fun h => nohot (ok.hotr x h)
  have z : Fz W.hot W.rho W.H (fun b => W.hot b ∨ b = x) (W.rho ++ [x]) (upd W.H x u) := ⟨fun a v _ h => sm a v h, fun a v hn h hh => hh.elim hn fun q => (by subst q; rw [hx] at h; cases h), fun a ys h => sm a _ h, fun a v w h => sm a _ h, fun n a h => by rw [List.getElem?_append_left (List.getElem?_eq_some_iff.mp h).1]; exact h⟩
  refine ⟨⟨fun b => W.hot b ∨ b = x, W.rho ++ [x], W.mem ++ [o], _, W.tmp⟩, rfl, rfl, rfl, rfl, ⟨?_, ?_, fun a h => ?_, fun a h => ?_, fun n v a h1 h2 => ?_⟩, ⟨fun a v h _ => sm a v h, fun a ys h => sm a _ h, fun a v w h => sm a _ h, z.pre, fun a h => .inl h, fun a h => h.imp id fun q => by subst q; exact hx, fun a h => ?_, fun a v h => ⟨v, sm a v h⟩⟩⟩
  · show (W.rho ++ [x]).Nodup
    rw [List.nodup_append]
    exact ⟨ok.nd, by simp, fun a ha b hb q => norho (by rw [List.mem_singleton] at hb; rw [← hb, ← q]; exact ha)⟩
  · show (W.rho ++ [x]).length = (W.mem ++ [o]).length
    rw [List.length_append, List.length_append, ok.len]; rfl
  · rcases h with h | h
    · obtain ⟨v, q⟩ := ok.hotd a h; exact ⟨v, sm _ _ q⟩
    · subst h; exact ⟨_, upd_same⟩
  · rcases List.mem_append.mp (show a ∈ W.rho ++ [x] from h) with h | h
    · exact .inl (ok.hotr a h)
    · exact .inr (by simpa using h)
  · have h1' : (W.mem ++ [o])[n]? = some v := h1
    have h2' : (W.rho ++ [x])[n]? = some a := h2
    by_cases hn : n < W.mem.length
    · rw [List.getElem?_append_left hn] at h1'
      rw [List.getElem?_append_left (by rw [ok.len]; exact hn)] at h2'
      exact (ok.cells n v a h1' h2').fz (W' := ⟨_, _, _, _, _⟩) z fun w q => sm a w q
    · have hl := (List.getElem?_eq_some_iff.mp h1').1
      rw [List.length_append, List.length_singleton] at hl
      obtain rfl : n = W.mem.length := by omega
      rw [List.getElem?_append_right (Nat.le_refl _), Nat.sub_self] at h1'
      rw [List.getElem?_append_right (by rw [ok.len]; exact Nat.le_refl _), ok.len, Nat.sub_self] at h2'
      cases h1'; cases h2'
      exact r _ rfl rfl z
  · rcases List.mem_append.mp (show a ∈ W.rho ++ [x] from h) with h | h
    · exact .inl h
    · exact .inr (by rw [List.mem_singleton] at h; subst h; exact hx)
/-- the place of the newest -/
theorem rho_last {W W' : Wd} {G : Gx} (ok : WOk G W) {x : Addr} (h : W'.rho = W.rho ++ [x]) : W'.rho[W.mem.length]? = some x := by
  rw [h, ← ok.len, List.getElem?_append_right (Nat.le_refl _), Nat.sub_self]
  rfl

/-! ### the fields -/
/-- own exception classes and their plain fields -/
def XOk (G : Gx) (ct : Str → Str → Bool) : Prop := ∀ Cn f Ca, ct Cn f = true → G.mg Cn = some (.ref Ca) → OexC G.K Ca ∧ PySem.W.findIn G.K (.ref Ca) f = some none ∧ XfC G.K Ca
/-- self.f = e in an exception -/
def dSetX (ct : Str → Str → Bool) (f : Str) (dv : Ls → R Dv) (d : Ls → R Dv) : Ls → Fl := fun s => (dv s).fl fun y s => (d s).fl fun x s => match x with
  | .ref n => (match s.mem[n]? with
    | some (.exn C none) => if ct C f = true then .nx { s with mem := (s.mem ++ [Ob.xdc [(f, y)]]).set n (.exn C (some s.mem.length)) } else .stuck
    | some (.exn C (some k)) => (match s.mem[k]? with
      | some (.xdc fs) => if ct C f = true ∧ fs.length ≤ 900 then .nx { s with mem := s.mem.set k (.xdc ((f, y) :: fs)) } else .stuck
      | _ => .stuck)
    | _ => .stuck)
  | _ => .stuck
theorem sim_setX {G : Gx} {wish : WX} {ct : Str → Str → Bool} {f : Str} {ta tv : TE} {d dv : Ls → R Dv} (T : XOk G ct) (hv : Sim G (rV G) wish tv dv) (h : Sim G (rV G) wish ta d) : SimS G wish (tOst G.K f ta tv) (dSetX ct f dv d) := fun B W σ s D e p =>
  hv B W σ s _ e (Post.fl (rep := rV G) p fun y s0 vy W0 _ e0 z0 r0 p0 => h B W0 σ s0 _ e0 (Post.fl (rep := rV G) p0 fun x s1 v W1 _ e1 z1 r1 p1 => by
    cases x <;> first | exact p1.elim | skip
    rename_i n _
    cases hm : s1.mem[n]? with
    | none => simp only [hm] at p1; exact p1.elim
    | some o =>
      cases o <;> simp only [hm] at p1 <;> first | exact p1.elim | skip
      rename_i C k
      have hm' := hm
      rw [e1.mem] at hm
      cases r1 with
      | ref hr =>
        rename_i a
        have r0' : Rep G W1 vy y := RepX.mono z1.fz r0
        cases k with
        | none =>
          simp only at p1
          by_cases hc : ct C f = true
          · rw [if_pos hc] at p1
            obtain ⟨Ca, g1, g2⟩ := e1.wok.cells n _ _ hm hr
            obtain ⟨c1, c2, _⟩ := T C f Ca hc g1
            refine ⟨a, Ca, rfl, c1, c2, .inl ⟨g2, fun dx hdx hne => ?_⟩⟩
            obtain ⟨W2, q1, q2, q3, q4, q5, q6⟩ := grow_cell e1.wok (u := exd dx [(f, vy)]) (o := Ob.xdc [(f, y)]) hdx fun W' e' _ z => ⟨_, by rw [e']; exact upd_same, .cons (RepX.mono z r0') .nil⟩
            obtain ⟨e2, z2⟩ := e1.call q5 q3 q6
            have hr2 : W2.rho[n]? = some a := by rw [q2, List.getElem?_append_left (List.getElem?_eq_some_iff.mp hr).1]; exact hr
            have hm2 : W2.mem[n]? = some (.exn C none) := by rw [q3, List.getElem?_append_left (List.getElem?_eq_some_iff.mp hm).1]; exact hm
            have hu2 : W2.H a = some (exo a Ca none) := by rw [q1, upd_ne (fun q => hne q.symm)]; exact g2
            have hk2 : W2.rho[W1.mem.length]? = some dx := rho_last e1.wok q2
            obtain ⟨e3, z3⟩ := e2.mutCell (W := { W2 with tmp := W1.tmp }) hr2 hm2 hu2 (fun _ => exo_tup) not_fixed_exo (u' := exo a Ca (some dx)) (o' := .exn C (some W1.mem.length)) ⟨Ca, dx, g1, hk2, upd_same⟩
            have := p1 σ _ (by rw [e1.mem]; exact e3) (z2.trans z3)
            rw [show upd W2.H a (exo a Ca (some dx)) = upd (upd W1.H dx (exd dx [(f, vy)])) a (exo a Ca (some dx)) by rw [q1]] at this
            exact this
          · rw [if_neg hc] at p1
            exact p1.elim
        | some k =>
          simp only at p1
          cases hk : s1.mem[k]? with
          | none => simp only [hk] at p1; exact p1.elim
          | some o2 =>
            cases o2 <;> simp only [hk] at p1 <;> first | exact p1.elim | skip
            rename_i fs
            by_cases hc : ct C f = true ∧ fs.length ≤ 900
            · rw [if_pos hc] at p1
              obtain ⟨Ca, dx, g1, g3, g2⟩ := e1.wok.cells n _ _ hm hr
              obtain ⟨c1, c2, _⟩ := T C f Ca hc.1 g1
              rw [e1.mem] at hk
              obtain ⟨l, h1, h2⟩ := e1.wok.cells k _ _ hk g3
              have hot := e1.wok.hotr _ (List.mem_of_getElem? g3)
              have z : Fz W1.hot W1.rho W1.H W1.hot W1.rho (upd W1.H dx (exd dx ((f, vy) :: l))) := Fz.mut hot h1 (fun _ => exd_tup) not_fixed_exd
              obtain ⟨e2, z2⟩ := e1.mutCell g3 hk h1 (fun _ => exd_tup) not_fixed_exd (u' := exd dx ((f, vy) :: l)) (o' := .xdc ((f, y) :: fs)) ⟨_, upd_same, .cons (RepX.mono z r0') (RepF.mono (fun _ _ r => RepX.mono z r) h2)⟩
              exact ⟨a, Ca, rfl, c1, c2, .inr ⟨dx, l, g2, h1, by rw [RepF.length h2]; exact hc.2, p1 σ _ e2 z2⟩⟩
            · rw [if_neg hc] at p1
              exact p1.elim))
theorem ds_setX {X : Cx} {wish : WX} {ct : Str → Str → Bool} {o value : Expr} {f : Str} {pos pos' : Pos} {ta tv : TE} {d dv : Ls → R Dv} (T : XOk (gx X) ct) (hv : DE X wish value tv dv) (h : DE X wish o ta d) (hs : swapsWith value (some (.Attribute o f pos')) pos.line X.env = pure false := by rfl) :
    DS X wish (.Assign [.Attribute o f pos'] value pos) (tOst X.K f ta tv) (dSetX ct f dv d) := ⟨ps_ost h.pe hv.pe hs, sim_setX T hv.sim h.sim⟩
/-- e.f of an exception's object -/
def tXo (K : PySem.W.Frag) (f : Str) (ta : TE) : TE := fun σ H Q => ta σ H fun x H1 => ∃ (a C dx : Addr) (fs : List (Str × V)) (v : V), x = .ref a ∧ H1 a = some (exo a C (some dx)) ∧ H1 dx = some (exd dx fs) ∧ XfC K C ∧ PySem.W.findIn K (.ref C) f = some none ∧ fs.lookup f = some v ∧ Q v H1
theorem pe_xo {X : Cx} {e : Expr} {f : Str} {ta : TE} {pos : Pos} (he : PE X e ta) (hb : attributeBase e f X.env (eval e X.env) = eval e X.env := by rfl) : PE X (.Attribute e f pos) (tXo X.K f ta) := by
  refine ⟨fun pins s σ H Q I h => ?_⟩
  refine attr_of hb (thn (he.run pins s σ H _ I h) fun u s1 hh => ?_)
  obtain ⟨x, H1, I1, rx, a, C, dx, fs, v, ex, ea, ed, T, hno, l, q⟩ := hh
  subst ex
  obtain rfl : u = Value.ref a := rx
  obtain ⟨t1, ho⟩ := exo_at I1.hok ea
  obtain ⟨mA, hns, hr⟩ := exd_at I1.hok ed
  obtain ⟨od, hod, hl⟩ := lookIn_ns hns
  obtain ⟨u, hu, ru⟩ := RelO.some_of (v := v) (o := mA f) (by rw [← l]; exact hr f)
  have J : PySem.W.InstAt s1.heap a _ C (some od) := ⟨ho, rfl, rfl, hod⟩
  exact HandSPX.exc_get I1.kIn J T.ga T.gg T.exC (PySem.W.findObj_own T.hdC hno rfl (by rw [hl, hu])) (handed_of ru) ⟨v, H1, I1.tok _, ru, q⟩
def dXo (ct : Str → Str → Bool) (f : Str) (d : Ls → R Dv) : Ls → R Dv := fun s => (d s).bind fun x s => match x with
  | .ref n => (match s.mem[n]? with
    | some (.exn C (some k)) => (match s.mem[k]? with
      | some (.xdc fs) => if ct C f = true then R.of (fs.lookup f) s else .stuck
      | _ => .stuck)
    | _ => .stuck)
  | _ => .stuck
theorem sim_xo {G : Gx} {wish : WX} {ct : Str → Str → Bool} {f : Str} {ta : TE} {d : Ls → R Dv} (T : XOk G ct) (h : Sim G (rV G) wish ta d) : Sim G (rV G) wish (tXo G.K f ta) (dXo ct f d) := fun B W σ s Q e p =>
  h B W σ s _ e (Post.bind (rep := rV G) (rep2 := rV G) p fun x s1 v W1 _ e1 z1 r1 p1 => by
    cases x <;> first | exact p1.elim | skip
    rename_i n _
    cases hm : s1.mem[n]? with
    | none => simp only [hm] at p1; exact p1.elim
    | some o =>
      cases o <;> simp only [hm] at p1 <;> first | exact p1.elim | skip
      rename_i C k
      cases k with
      | none => exact p1.elim
      | some k =>
        simp only at p1
        cases hk : s1.mem[k]? with
        | none => simp only [hk] at p1; exact p1.elim
        | some o2 =>
          cases o2 <;> simp only [hk] at p1 <;> first | exact p1.elim | skip
          rename_i fs
          by_cases hc : ct C f = true
          · rw [if_pos hc] at p1
            obtain ⟨x, hx, p2⟩ := Post.of p1
            cases r1 with
            | ref hr =>
              rw [e1.mem] at hm hk
              obtain ⟨Ca, dx, g1, g3, g2⟩ := e1.wok.cells n _ _ hm hr
              obtain ⟨l, h1, h2⟩ := e1.wok.cells k _ _ hk g3
              obtain ⟨c1, c2, c3⟩ := T C f Ca hc g1
              obtain ⟨u, q1, q2⟩ := (RepF.lookup (f := f) h2).1 x hx
              exact ⟨_, Ca, dx, l, u, rfl, g2, h1, c3, c2, q1, p2 u W1 e1 Stp.refl q2⟩
          · rw [if_neg hc] at p1
            exact p1.elim)
theorem de_xo {X : Cx} {wish : WX} {ct : Str → Str → Bool} {e : Expr} {f : Str} {pos : Pos} {ta : TE} {d : Ls → R Dv} (T : XOk (gx X) ct) (h : DE X wish e ta d) (hb : attributeBase e f X.env (eval e X.env) = eval e X.env := by rfl) : DE X wish (.Attribute e f pos) (tXo X.K f ta) (dXo ct f d) := ⟨pe_xo h.pe hb, sim_xo T h.sim⟩
end DD

/-! D28: isinstance of an exception's object; making exceptions -/
namespace DD
open PySem L2
open PyProof.Rows hiding St

/-! ### isinstance -/
theorem found_class {K : PySem.W.Frag} {C : Addr} {od : Option Obj} {nm : Str} {at_ gt : Value} (c : (PySem.W.clsIn K C).isSome = true) (h1 : PySem.W.findIn K (.ref C) nm = some (some at_)) (h2 : PySem.W.specialIn K at_ "__get__" = some (some gt)) (h3 : PySem.W.takesIn K at_ = some true) : PySem.W.findObj K C od nm = some (.bind gt at_) := by
  obtain ⟨cd, e⟩ := Option.isSome_iff_exists.mp c
  simp only [PySem.W.findObj, e, h1, h2, h3, Option.bind_some]
section
variable {prog : Program} {w : World} {A : Around} {E : Value → Shared → Prop} {s : Shared} {K : PySem.W.Frag} {x D : Addr} {ox : Obj} {od : Option Obj}
theorem class_of {Q : Option Value → Shared → Prop} (T : ExcC K D) (X : K.In s.heap) (I : PySem.W.InstAt s.heap x ox D od) (h : Q (some (.ref D)) { s with toks := s.toks + 1 }) : wpAny (model prog w) A (getAttr? (.ref x) "__class__") Q E s := by
  have fo : PySem.W.findObj K D od "__class__" = some (.bind (.builtin "getset_descriptor.__get__") (.builtin "object.__class__")) :=
    found_class (by obtain ⟨cd, e, _⟩ := PySem.W.any_some T.hd; rw [e]; rfl) T.ha T.hn T.ht
  obtain ⟨hp, g, d, t, os⟩ := s
  have ty := I.type (M := model prog w)
  have la := PySem.W.looks_findIn (M := model prog w) X T.hg
  have lb := PySem.W.looks_findIn (M := model prog w) X T.hk
  have lc := PySem.W.looks_find (M := model prog w) X I fo
  have ib : PySem.W.Looks (model prog w) hp (isInstance (.ref x) (.type "BaseException")) true := ty.andThen (PySem.W.looks_subIn X T.hs)
  have no : (Value.builtin "BaseException.__getattribute__" == Value.builtin "object.__getattribute__") = false := by decide +kernel
  have n1 : (onTheHeap (Value.ref D) && Value.builtin "BaseException.__getattribute__" == Value.builtin "object.__getattribute__") = false := by rw [no]; rfl
  have n0 : (false && onTheHeap (Value.builtin "BaseException.__getattribute__")) = false := rfl
  unfold getAttr? getAttrBy? getAttrBy
  refine wpAny_bind (wpAny_mkText (wpAny_bind (wpAny_attempt (wpAny_holding ?_))))
  refine wpAny_bind (ty.at (wpAny_bind (la.at ?_)))
  show wpAny _ _ (if (onTheHeap (Value.ref D) && Value.builtin "BaseException.__getattribute__" == Value.builtin "object.__getattribute__") = true then _ else _) _ _ _
  rw [n1, if_neg (by decide)]
  unfold getAttrByItsOwn hookBefore
  refine wpAny_bind ?_
  rw [if_pos (show onTheHeap (Value.ref D) = true by rfl)]
  refine lb.at (wpAny_bind (wpAny_attempt (wpAny_holding ?_)))
  unfold callGetattribute
  rw [n0, if_neg (by decide)]
  unfold boundAndCalled
  rw [PySem.F.excAttr_ValueError.ga.bind (.ref x)]
  refine wpAny_bind (wpAny_pure ?_)
  show wpAny _ _ (call (.builtin "BaseException.__getattribute__") [.ref x, .str "__class__" t]) _ _ _
  refine wpAny_call (PySem.codeAny_call_builtin PySem.F.excAttr_ValueError.ga.plain PySem.F.entry_bexc_ga (@PySem.W.check_slot (model prog w) _ _ ⟨hp, g, d, t + 1, os⟩ "BaseException.__getattribute__" "BaseException" "__getattribute__" (.ref x) [.str "__class__" t] [] _ (by decide +kernel) (by decide +kernel) ib (PySem.F.args_bexc_ga (.ref x) (.str "__class__" t)) ?_))
  unfold Builtin.«object.__getattribute__»
  refine wpAny_bind (wpAny_of_eq (a := ((Value.ref x : Value), [Value.str "__class__" t])) (by first | rfl | (simp only [slotArgs]; rfl)) (wpAny_bind (wpAny_pure (wpAny_bind (ty.at (wpAny_bind (lc.at ?_)))))))
  show wpAny _ _ (holding [Value.builtin "object.__class__"] (call (.builtin "getset_descriptor.__get__") [.builtin "object.__class__", .ref x, .ref D]) >>= ret) _ _ _
  refine wpAny_bind (wpAny_holding (wpAny_call (PySem.W.class_get (s := ⟨hp, g, d, t + 1, os⟩) (ox := ox) (od := od) X I T.hm (wpAny_pure ?_))))
  show wpAny _ _ (handedOut (.ref D)) _ _ _
  rw [PySem.W.handedOut_of (v := .ref D) rfl]
  first
    | exact wpAny_pure h
    | exact wpAny_pure (wpAny_pure h)
    | exact wpAny_pure (wpAny_bind (wpAny_pure (wpAny_pure h)))
end
theorem kit_exn {K : PySem.W.Frag} {x D : Addr} (T : ExcC K D) : PySem.W.KitX K (.ref x) (.ref D) (fun h => ∃ ox od, PySem.W.InstAt h x ox D od) where
  ty := fun _ _ _ ⟨_, _, I⟩ => I.type
  it := fun _ _ X _ => by
    obtain ⟨cd, e, _⟩ := PySem.W.any_some T.hd
    unfold PySem.W.clsIn at e
    split at e
    · rename_i c' d' cd' sl' ho
      intro A' Q' E' s' k q
      unfold isType loadHead
      exact wpAny_bind (wpAny_loadPart (k _ _ (X _ _ ho)) (wpAny_pure q))
    · cases e
  ne := fun h tp dd its n sl X htp => by
    obtain ⟨cd, e, _⟩ := PySem.W.any_some T.hd
    cases hb : ((.ref D : Value) == .ref tp) with
    | false => rfl
    | true =>
      obtain rfl : D = tp := Value.ref.inj (beq_iff_eq.mp hb)
      unfold PySem.W.clsIn at e
      split at e
      · rename_i c' d' cd' sl' ho
        cases (X _ _ ho).symm.trans htp
      · cases e
  ca := fun X ⟨_, _, I⟩ k => class_of T X I k
/-- isinstance(e, c), e an exception's object -/
def rIsX (K : PySem.W.Frag) : List V → Hp → VK → Prop := fun xs H Q => ∃ (a D : Addr) (d : Option Addr) (c : V) (cv : Value) (b : Bool), xs = [.ref a, c] ∧ H a = some (exo a D d) ∧ (∀ dx, d = some dx → ∃ fs, H dx = some (exd dx fs)) ∧ ExcC K D ∧ (∀ u, RelV c u → u = cv) ∧ PySem.W.kitOne K (.ref D) cv = some b ∧ Q (.bl b) H
theorem call_isX {X : Cx} : CallR X (.builtin "isinstance") (rIsX X.K) := by
  intro pins s σ H xs us Q I r h
  obtain ⟨a, D, d, c, cv, b, rfl, ea, ed, T, hcv, hk, q⟩ := h
  cases r with
  | cons rx rr =>
    cases rr with
    | cons rt rr =>
      cases rr
      cases rx
      have ec := hcv _ rt
      subst ec
      obtain ⟨t1, ho⟩ := exo_at I.hok ea
      have J : ∃ ox od, PySem.W.InstAt s.heap a ox D od := by
        cases d with
        | none => exact ⟨_, none, ho, rfl, rfl, trivial⟩
        | some dx =>
          obtain ⟨fs, e2⟩ := ed dx rfl
          obtain ⟨mA, hns, _⟩ := exd_at I.hok e2
          obtain ⟨od, hod, _⟩ := lookIn_ns hns
          exact ⟨_, some od, ho, rfl, rfl, hod⟩
      exact PySem.W.kia_one (kit_exn T) I.kIn J hk (fun z => nomatch z) fun tk => ⟨.bl b, H, I.kept (t' := tk) fun _ _ z => z, rfl, q⟩
/-- which exception is which -/
structure IsTabX (G : Gx) (tb : Str → Tg → Option Bool) : Prop where
  one : ∀ C u b Ca uv, tb C u = some b → G.mg C = some (.ref Ca) → tagV G u uv → ExcC G.K Ca ∧ PySem.W.kitOne G.K (.ref Ca) uv = some b
def fIsX (tb : Str → Tg → Option Bool) (m : List Ob) : List Dv → Option Dv
  | [.ref n, c] => match m[n]? with
    | some (.exn C none) => (tagC c).bind fun u => (tb C u).map .bl
    | some (.exn C (some k)) => (match m[k]? with
      | some (.xdc _) => (tagC c).bind fun u => (tb C u).map .bl
      | _ => none)
    | _ => none
  | _ => none
theorem pure_isX {G : Gx} {tb : Str → Tg → Option Bool} (T : IsTabX G tb) : PureCM G (rIsX G.K) (fIsX tb) := by
  intro W vs xs Q z ok hv hf k
  unfold fIsX at hf
  split at hf
  · rename_i n c
    obtain ⟨v, w, rfl, r1, r2⟩ := hv.two
    have r1' : Rep G W v (.ref n) := r1
    cases r1' with
    | ref hr =>
      have fin : ∀ (C : Str) (Ca : Addr) (d : Option Addr) (a : Addr), G.mg C = some (.ref Ca) → W.H a = some (exo a Ca d) → (∀ dx, d = some dx → ∃ fs, W.H dx = some (exd dx fs)) → (tagC c).bind (fun u => (tb C u).map .bl) = some z → rIsX G.K [.ref a, w] W.H Q := fun C Ca d a g1 g2 g3 hf => by
        obtain ⟨u, h2, hf⟩ := bind1 hf
        obtain ⟨b, h3, rfl⟩ := Option.map_eq_some_iff.mp hf
        obtain ⟨uv, q3, q4⟩ := tagC_rep r2 h2
        obtain ⟨k1, k2⟩ := T.one _ _ _ _ _ h3 g1 q3
        refine ⟨a, Ca, d, w, uv, b, rfl, g2, g3, k1, fun u' hu => ?_, k2, k _ _ (Same.refl _) (.bl b)⟩
        cases q4 with
        | ty n => exact hu
        | own a => exact hu
      split at hf
      · rename_i C hm
        obtain ⟨Ca, g1, g2⟩ := ok.cells n _ _ hm hr
        exact fin C Ca none _ g1 g2 (fun _ q => by cases q) hf
      · rename_i C k' hm
        obtain ⟨Ca, dx, g1, g3, g2⟩ := ok.cells n _ _ hm hr
        split at hf
        · rename_i fs hk
          obtain ⟨l, h1, _⟩ := ok.cells k' _ _ hk g3
          exact fin C Ca (some dx) _ g1 g2 (fun _ q => by cases q; exact ⟨l, h1⟩) hf
        · cases hf
      · cases hf
  · cases hf
theorem de_isX {X : Cx} {wish : WX} {tb : Str → Tg → Option Bool} {a c : Expr} {ta : TA} {da : Ls → R (List Rd)} {p pos : Pos} (T : IsTabX (gx X) tb) (hg : Gl X "isinstance") (hm : X.mg "isinstance" = none) (hv : bootBuiltins "isinstance" = some (.builtin "isinstance")) (ha : DAr X wish [a, c] ta da)
    (he : starEach [a, c] X.env = (false, eval a X.env) :: starEach [c] X.env := by rfl) (hpl : (backTo pos (starEach [c] X.env)).any (·.1) = false := by rfl) : DE X wish (.Call (.Name "isinstance" p) [a, c] [] pos) (tCB (rIsX X.K) ta) (dCM (fIsX tb) da) :=
  ⟨pe_callB call_isX hg hm hv ha.pa (by decide) (by decide) he hpl, sim_CM (pure_isX T) ha.sim⟩
end DD

/-! D29: making exceptions -/
namespace DD
open PySem L2
open PyProof.Rows hiding St
/-- an own exception class with its own __init__ -/
structure MkXC (K : PySem.W.Frag) (C fI : Addr) : Prop where
  oex : OexC K C
  init : PySem.W.findIn K (.ref C) "__init__" = some (some (.ref fI))
  fn : PySem.W.typeIn K (.ref fI) = some (.type "function")
section
variable {X : Cx} {C fI : Addr} {k : Nat} {fd : FuncData} {ps : List Str} {sp : Sp} {ds : List Value} {dvs : List V}
theorem run_mkX {pins : List (Addr × Obj)} {σ : L2.St} {H : Hp} {s : Shared} {Q : VK} {us : List Value} {vs : List V} {E : XK} (M : MkXC X.K C fI) (F : FnOk X.prog X.w X.K X.mg X.base CX0 k fI fd ps sp) (hr : Room (k + 1) X.A) (hb : Binds X.K fd ps ds) (hd : Vals dvs ds) (I : Inv X pins σ H s) (r : Vals vs us) (hl : us.length ≤ 1000)
    (h : ∀ a, H a = none → sp (.ref a :: (vs ++ dvs)) (upd H a (exo a C none)) (fun v H2 => v = .non ∧ Q (.ref a) H2) E) :
    wpAny (model X.prog X.w) X.A (call (.ref C) us) (EP X pins σ Q) X.xe s := by
  obtain ⟨nm, q, N, bs, bm, sn, sub, ab, col, dd, k0, k1, k2, k3, k5, hC, hbm⟩ := M.oex.cls
  obtain ⟨hp, g, dr, tk, os⟩ := s
  have sz : hp.objs.size ≤ hp.objs.size + 1 := Nat.le_succ _
  have hq := h (hp.objs.size + 1) (I.hok.fresh sz)
  have old : ∀ b o, hp.get? b = some o → ((hp.push (PySem.W.kdv_tup us)).push (PySem.HandSPX.excO C hp.objs.size)).get? b = some o := fun b o e => Heap.get?_push_of_some _ (Heap.get?_push_of_some _ e)
  have new : ((hp.push (PySem.W.kdv_tup us)).push (PySem.HandSPX.excO C hp.objs.size)).get? (hp.objs.size + 1) = some (PySem.HandSPX.excO C hp.objs.size) := by heap_get
  have I2 : Inv X pins σ (upd H (hp.objs.size + 1) (exo (hp.objs.size + 1) C none)) ⟨(hp.push (PySem.W.kdv_tup us)).push (PySem.HandSPX.excO C hp.objs.size), g, dr, tk, os⟩ :=
    I.laid (t' := tk) (a := hp.objs.size + 1) (o := exo (hp.objs.size + 1) C none) (h' := (hp.push (PySem.W.kdv_tup us)).push (PySem.HandSPX.excO C hp.objs.size)) old sz (exo_ok new)
  have r2 : Vals (V.ref (hp.objs.size + 1) :: (vs ++ dvs)) (Value.ref (hp.objs.size + 1) :: (us ++ ds)) := .cons rfl (r.append hd)
  have len : (Value.ref (hp.objs.size + 1) :: us ++ ds).length = ps.length := by
    have e := r2.length
    rw [F.len _ _ _ _ hq] at e
    exact e.symm
  have few : us.length ≤ sizeLine := by rw [sizeLine_eq]; omega
  refine wpAny_call (PySem.HandSPX.call_own PySem.F.excBase_ValueError (fun Y => PySem.HandSPX.refsVE_contains Y bm hbm) (I.kIn _ _ hC) (PySem.W.looks_findIn I.kIn M.init) (fun self => PySem.W.bind_fn I.kIn self M.fn) few
    (codeAny_mono (F.run _ X.stack _ _ ⟨Value.ref (hp.objs.size + 1) :: us, []⟩ (Value.ref (hp.objs.size + 1) :: (us ++ ds)) _ _ E (hr.make C us []) (I2.env0.make C us []) (hb _ (Value.ref (hp.objs.size + 1) :: us) I2.kIn len) r2 hq) fun r s' hq' => ?_))
  cases r with
  | error e => exact pass0 pins σ _ _ e s' I2 hq'
  | ok fl =>
    cases fl with
    | ret u =>
      obtain ⟨v, H', I3, rv, ev, q3⟩ := I2.after hq'
      subst ev
      exact ⟨rv, ⟨V.ref (hp.objs.size + 1), H', I3, rfl, q3⟩⟩
    | next => exact False.elim hq'
    | brk => exact False.elim hq'
    | cont => exact False.elim hq'
end
/-- an exception that can be made: its __init__ does what f says -/
structure MkXD (X : Cx) (wish : WX) (C : Addr) (f : Den) : Prop where
  kp : PySem.W.keepIn X.K (.ref C) = true
  run : ∀ (pins : List (Addr × Obj)) (s : Shared) (σ : L2.St) (H : Hp) (us : List Value) (vs : List V) (Q : VK), Inv X pins σ H s → Vals vs us → vs.length ≤ 1000 → (∀ a, H a = none → ∃ W xs, W.H = upd H a (exo a C none) ∧ WOk (gx X) W ∧ RepL (gx X) W (.ref a :: vs) xs ∧
    wantD (gx X) W wish σ (fun v H2 => v = .non ∧ Q (.ref a) H2) (f xs W.mem)) → wpAny (model X.prog X.w) X.A (call (.ref C) us) (EP X pins σ Q) X.xe s
theorem mkXD_of0 {X : Cx} {wish : WX} {k n : Nat} {a C : Addr} {fd : FuncData} {ps : List Str} {ex : Bool} {f : Den} {ds : List Value} {dvs : List V} {dds : List Dv} (M : MkXC X.K C a) (F : FnOk X.prog X.w X.K X.mg X.base CX0 k a fd ps (spD (gx X) ex n f)) (hr : Room (k + 1) X.A) (hb : Binds X.K fd ps ds) (hd : Vals dvs ds)
    (hdd : ∀ W, RepL (gx X) W dvs dds) : MkXD X wish C (withD n dds (noEx f)) := ⟨M.oex.kC, fun pins s σ H us vs Q I r hz h => run_mkX (E := fun _ _ _ => False) M F hr hb hd I r (by rw [← Paired.length r]; exact hz) fun x h1 => by
  obtain ⟨W, xs, e1, ok, rl, q⟩ := h x h1
  by_cases hl : xs.length + dds.length = n
  · simp only [withD, if_pos hl] at q
    refine ⟨W, xs ++ dds, e1, ok, (by simpa using RepL.append rl (hdd W)), by rw [List.length_append]; exact hl, ?_⟩
    unfold noEx at q
    cases hf : f (xs ++ dds) W.mem with
    | ok x m => rw [hf] at q; exact q
    | err x m => rw [hf] at q; exact q.elim
    | stuck => rw [hf] at q; exact q
  · simp only [withD, if_neg hl] at q
    exact q.elim⟩
def tMkX (G : Gx) (wish : WX) (C : Addr) (f : Den) (t : TA) : TE := fun σ H Q => t σ H fun vs H1 => vs.length ≤ 1000 ∧ ∀ a, H1 a = none → ∃ W xs, W.H = upd H1 a (exo a C none) ∧ WOk G W ∧ RepL G W (.ref a :: vs) xs ∧ wantD G W wish σ (fun v H2 => v = .non ∧ Q (.ref a) H2) (f xs W.mem)
def dMkX (Cn : Str) (f : Den) (da : Ls → R (List Dv)) : Ls → R Dv := fun s => (da s).bind fun xs s => if xs.length ≤ 1000 then (match f (.ref s.mem.length :: xs) (s.mem ++ [.exn Cn none]) with
  | .ok .non m => .ok (.ref s.mem.length) { s with mem := m }
  | _ => .stuck) else .stuck
theorem sim_mkX {G : Gx} {wish : WX} {Cn : Str} {C : Addr} {f : Den} {t : TA} {da : Ls → R (List Dv)} (hC : G.mg Cn = some (.ref C)) (ha : Sim G (rL G) wish t da) : Sim G (rV G) wish (tMkX G wish C f t) (dMkX Cn f da) := fun B W σ s Q e p =>
  ha B W σ s _ e (Post.bind (rep := rL G) (rep2 := rV G) p fun xs s1 vs W1 _ e1 z1 r1 p1 => by
    by_cases hz : xs.length ≤ 1000
    case neg => rw [if_neg hz] at p1; exact p1.elim
    rw [if_pos hz] at p1
    refine ⟨by rw [RepL.length r1]; exact hz, fun x h1 => ?_⟩
    obtain ⟨W', k1, k2, k3, k4, k5, k6⟩ := grow_cell e1.wok (u := exo x C none) (o := Ob.exn Cn none) h1 fun W' e' _ _ => ⟨C, hC, by rw [e']; exact upd_same⟩
    have hlen : W1.mem.length = s1.mem.length := by rw [e1.mem]
    have hx : W'.rho[s1.mem.length]? = some x := by rw [← hlen]; exact rho_last e1.wok k2
    refine ⟨W', .ref s1.mem.length :: xs, k1, k5, .cons (.ref hx) (RepX.mono (k6.fz e1.wok) r1), ?_⟩
    have hm : W'.mem = s1.mem ++ [.exn Cn none] := by rw [k3, e1.mem]
    rw [hm]
    cases hf : f (.ref s1.mem.length :: xs) (s1.mem ++ [.exn Cn none]) with
    | stuck => rw [hf] at p1; exact p1.elim
    | err y m => rw [hf] at p1; exact p1.elim
    | ok y m =>
      rw [hf] at p1
      cases y <;> first | exact p1.elim | skip
      intro v W2 ok2 hm2 c2 rp
      cases rp
      obtain ⟨e2, z2⟩ := e1.call ok2 hm2 (k6.trans c2)
      exact ⟨rfl, p1 (.ref x) { W2 with tmp := W1.tmp } e2 z2 (.ref (c2.pre _ _ hx))⟩)
/-- without an own __init__ -/
structure MkX0 (K : PySem.W.Frag) (C : Addr) : Prop where
  kp : PySem.W.keepIn K (.ref C) = true
  ex : ∃ newId initId bmB, ExcBaseFacts "ValueError" newId initId bmB ∧ PySem.W.excIn K C bmB newId = true
def tMkX0 (C : Addr) : TE := fun σ H Q => ∀ a, H a = none → Q (.ref a) (upd H a (exo a C none))
def dMkX0 (Cn : Str) : Ls → R Dv := fun s => .ok (.ref s.mem.length) { s with mem := s.mem ++ [.exn Cn none] }
theorem sim_mkX0 {G : Gx} {wish : WX} {Cn : Str} {C : Addr} (hC : G.mg Cn = some (.ref C)) : Sim G (rV G) wish (tMkX0 C) (dMkX0 Cn) := fun B W σ s Q e p a h1 => by
  obtain ⟨W', k1, k2, k3, k4, k5, k6⟩ := grow_cell e.wok (u := exo a C none) (o := Ob.exn Cn none) h1 fun W' e' _ _ => ⟨C, hC, by rw [e']; exact upd_same⟩
  obtain ⟨e2, z2⟩ := e.call k5 k3 k6
  have hx : W'.rho[s.mem.length]? = some a := by rw [e.mem]; exact rho_last e.wok k2
  have := p (.ref a) { W' with tmp := W.tmp } (by rw [e.mem]; exact e2) z2 (.ref hx)
  rw [← k1]; exact this
section
variable {X : Cx} {wish : WX} {C : Addr} {Cn : Str} {f : Den} {p pos : Pos} {e : Expr} {es : List Expr} {t : TA} {da : Ls → R (List Dv)}
theorem de_mkX (M : MkXD X wish C f) (hg : Gl X Cn) (hC : X.mg Cn = some (.ref C)) (ha : DA X wish (e :: es) t da) (hdb : (Cn == ("__debug__" : Str)) = false := by decide) (he : starEach (e :: es) X.env = (false, eval e X.env) :: starEach es X.env := by rfl)
    (hpl : (backTo pos (starEach es X.env)).any (·.1) = false := by rfl) : DE X wish (.Call (.Name Cn p) (e :: es) [] pos) (tMkX (gx X) wish C f t) (dMkX Cn f da) := ⟨⟨fun pins s σ H Q I h => by
  refine wpAny_Call_Name_kw (ld_glob I hg hC ?_ hdb)
  exact PySem.W.callWith_K (h₀ := X.base) I.ok.mod.kin M.kp (thn (ha.pa.run pos pins s σ H _ I h) fun us s1 ⟨vs, H1, I1, r, hz, q⟩ => ⟨I1.kIn, M.run pins s1 σ H1 us vs Q I1 r hz q⟩) he hpl⟩, sim_mkX hC ha.sim⟩
theorem de_mkX0 (M : MkX0 X.K C) (hg : Gl X Cn) (hC : X.mg Cn = some (.ref C)) (hdb : (Cn == ("__debug__" : Str)) = false := by decide) : DE X wish (.Call (.Name Cn p) [] [] pos) (tMkX0 C) (dMkX0 Cn) := ⟨⟨fun pins s σ H Q I h => by
  refine wpAny_Call_Name_kw (ld_glob I hg hC ?_ hdb)
  refine PySem.W.callWith_K0 I.kIn M.kp ?_
  obtain ⟨newId, initId, bmB, F, q⟩ := M.ex
  obtain ⟨bm, N, nm, qn, bs, hdct, sn, sub, ab, col, dd, k0, k1, k2, k3, k5, mN, hC', hN, hni, T⟩ := exc_obj I.kIn q
  refine wpAny_call_exc_subT F T hC' hN hni (fun h' a hm => ?_) (by show 0 ≤ sizeLine; omega)
  have hn : H a = none := I.hok.gone hm.new
  obtain ⟨t, ht, _, _⟩ := hm.there
  exact ⟨.ref a, upd H a (exo a C none), I.laidN hm.keeps hm.new hn (exo_ok ht), rfl, h a hn⟩⟩, sim_mkX0 hC⟩
end
end DD

/-! D30: the run of the top, looked at in parts -/
namespace DD
open PySem L2
theorem map3 {α β γ δ : Type} {o : Option α} {f : α → β} {g : α → γ} {h : α → δ} {b : β} {c : γ} {d : δ} (h1 : o.map f = some b) (h2 : o.map g = some c) (h3 : o.map h = some d) : o.map (fun s => (f s, g s, h s)) = some (b, c, d) := by
  cases o with
  | none => cases h1
  | some s => cases h1; cases h2; cases h3; rfl
/-- what the names reach in n steps: each step looks only at what the last one found -/
def stepF (g : Addr → Option Obj) (p : List Addr × List Addr) : List Addr × List Addr :=
  let new := ((p.2.flatMap fun a => match g a with | some o => He.refsD o | none => []).filter fun a => !(p.1.contains a)).eraseDups
  (p.1 ++ new, new)
def walkF (g : Addr → Option Obj) : Nat → List Addr × List Addr → List Addr × List Addr
  | 0, p => p
  | n + 1, p => walkF g n (stepF g p)
def asF (g : Addr → Option Obj) (n : Nat) : List Addr := (walkF g n ([mainGlobals], [mainGlobals])).1 ++ [PySem.cStatics]
def obsF (n : Nat) (fs : List Fact) (fn : List DefE) (tf : List He.Defn) (g : Addr → Option Obj) : AlY :=
  let K := He.frT g (asF g n)
  (fs.all (fun f => f K) && (fn.all (fun d => d.ok K) && He.tabsB g tf K), fn.map fun d => fnWa K (d.at_ K))
theorem saysF_of {as : List Addr} {fs : List Fact} {fn : List DefE} {tf : List He.Defn} {h : Heap} (e : (let K := He.frT h.get? as; ((fs.all (fun f => f K) && (fn.all (fun d => d.ok K) && He.tabsB h.get? tf K), fn.map fun d => fnWa K (d.at_ K)) : AlY)) = valY fn) : SaysY fs fn tf h (He.frT h.get? as) := by
  have e1 := congrArg (fun z : AlY => z.1) e
  have e2 := congrArg (fun z : AlY => z.2) e
  obtain ⟨h1, h2⟩ := He.ba (show (fs.all (fun f => f (He.frT h.get? as)) && (fn.all (fun d => d.ok (He.frT h.get? as)) && He.tabsB h.get? tf (He.frT h.get? as))) = true from e1)
  obtain ⟨h3, h4⟩ := He.ba h2
  have key : ∀ p ∈ tf, PySem.W.codeHdIn (He.frT h.get? as) (He.cT (He.frT h.get? as) p).1 (He.cT (He.frT h.get? as) p).2 = true ∧ ∃ o, h.get? (He.cT (He.frT h.get? as) p).2 = some o ∧ He.emptyTab o = true := fun p hp => by
    obtain ⟨k1, k2⟩ := He.ba (List.all_eq_true.mp h4 p hp)
    refine ⟨k1, ?_⟩
    cases q : h.get? (He.cT (He.frT h.get? as) p).2 with
    | none => rw [q] at k2; cases k2
    | some o => rw [q] at k2; exact ⟨o, rfl, k2⟩
  refine ⟨h1, h3, e2, fun p hp => (key p hp).1, fun p hp => ?_, fun p hp => ?_⟩
  · obtain ⟨_, o, q, z⟩ := key p hp
    exact He.frT_none q z
  · obtain ⟨_, o, q, z⟩ := key p hp
    rw [q, He.emptyTab_eq z]
def hookF (n : Nat) (fs : List Fact) (fn : List DefE) (tf : List He.Defn) : PySem.W.Hook where
  α := AlY
  obs := fun s => obsF n fs fn tf s.heap.get?
  val := fun _ => valY fn
  says := fun _ h => ∃ K : PySem.W.Frag, K.In h ∧ SaysY fs fn tf h K
  of := fun _ _ e => ⟨_, He.frT_in, saysF_of e⟩
  keeps := fun _ _ _ ⟨K, hK, c⟩ k => ⟨K, PySem.W.Frag.In.keeps hK k, ⟨c.facts, c.oks, c.defs, c.hd, c.out, fun p hp => k _ _ (c.empty p hp)⟩⟩
theorem obsF_eq {n : Nat} {fs : List Fact} {fn : List DefE} {tf : List He.Defn} {g : Addr → Option Obj} {s : Shared} (h : ∀ a, g a = s.heap.get? a) : obsF n fs fn tf g = (hookF n fs fn tf).obs s := by
  have e : g = s.heap.get? := funext h
  rw [e] <;> rfl
theorem obs_of {β : Type} {o : Option β} {n k : Nat} {fs : List Fact} {fn : List DefE} {tf : List He.Defn} {g : β → Addr → Option Obj} (h0 : o.map (fun s => (fs.take k).all fun f => f (He.frT (g s) (asF (g s) n))) = some true) (h1 : o.map (fun s => (fs.drop k).all fun f => f (He.frT (g s) (asF (g s) n))) = some true)
    (h2 : o.map (fun s => fn.all (fun d => d.ok (He.frT (g s) (asF (g s) n))) && He.tabsB (g s) tf (He.frT (g s) (asF (g s) n))) = some true) (h3 : o.map (fun s => fn.map fun d => fnWa (He.frT (g s) (asF (g s) n)) (d.at_ (He.frT (g s) (asF (g s) n)))) = some (fn.map DefE.val)) : o.map (fun s => obsF n fs fn tf (g s)) = some (valY fn) := by
  cases o with
  | none => cases h0
  | some s =>
    generalize hK : He.frT (g s) (asF (g s) n) = K
    have a0 : ((fs.take k).all fun f => f K) = true := by rw [← hK]; exact Option.some.inj h0
    have a1 : ((fs.drop k).all fun f => f K) = true := by rw [← hK]; exact Option.some.inj h1
    have a2 : (fn.all (fun d => d.ok K) && He.tabsB (g s) tf K) = true := by rw [← hK]; exact Option.some.inj h2
    have a3 : (fn.map fun d => fnWa K (d.at_ K)) = fn.map DefE.val := by rw [← hK]; exact Option.some.inj h3
    have a : (fs.all fun f => f K) = true := by
      rw [← List.take_append_drop k fs, List.all_append, a0, a1]; rfl
    have e : obsF n fs fn tf (g s) = ((fs.all fun f => f K) && (fn.all (fun d => d.ok K) && He.tabsB (g s) tf K), fn.map fun d => fnWa K (d.at_ K)) := by rw [← hK]; rfl
    show some (obsF n fs fn tf (g s)) = some (true, fn.map DefE.val)
    rw [e, a, a2, a3]; rfl
end DD

/-! D31: exceptions: facts and records -/
namespace DD
open PySem L2 ClX
open PyProof.Rows hiding St
def oexO (C : Addr) (o : Option Obj) : Bool := match o with
  | some ⟨.type "type", _, .cls cd, sl⟩ => (match cd.mro, sl.toList with
    | .ref c :: bm, [_, _, _, _, some (.builtin z), _] => (c == C) && ((z == "ValueError.__new__") && (!cd.hasDel && (cd.hasDict && PySem.HandSPX.refsVE bm)))
    | _, _ => false)
  | _ => false
theorem oexO_ok {C : Addr} {o : Option Obj} (h : oexO C o = true) : ∃ nm q N bs bm sn sub ab col dd k0 k1 k2 k3 k5, o = some (excClassObj nm q C N bs bm true sn sub ab col dd k0 k1 k2 k3 k5 "ValueError.__new__") ∧ PySem.HandSPX.refsVE bm = true := by
  unfold oexO at h
  split at h
  · rename_i dd cd sl
    split at h
    · rename_i c bm k0 k1 k2 k3 z k5 e1 e2
      obtain ⟨h1, h⟩ := He.ba h
      obtain ⟨h2, h⟩ := He.ba h
      obtain ⟨h3, h⟩ := He.ba h
      obtain ⟨h4, h5⟩ := He.ba h
      have h1 := beq_iff_eq.mp h1
      have h2 := beq_iff_eq.mp h2
      subst h1 h2
      obtain ⟨nm, bs, mro, ns, qn, hd, sn, sub, ab, col, dl⟩ := cd
      simp only at e1 h3 h4
      subst e1
      obtain rfl : hd = true := h4
      obtain rfl : dl = false := by simpa using h3
      obtain ⟨l⟩ := sl
      simp only at e2
      subst e2
      exact ⟨_, _, _, _, _, _, _, _, _, _, _, _, _, _, _, rfl, h5⟩
    · cases h
  · cases h
def oexB (K : PySem.W.Frag) (C : Addr) : Bool := oexO C (K.lookup C) && (decide (PySem.W.findIn K (.ref C) "__setattr__" = some (some (.builtin "object.__setattr__"))) && (decide (PySem.W.subIn K (.ref C) (.type "BaseException") = some true) && (decide (PySem.W.typeIn K (.ref C) = some (.type "type")) && PySem.W.keepIn K (.ref C))))
theorem oexB_ok {K : PySem.W.Frag} {C : Addr} (h : oexB K C = true) : OexC K C := by
  obtain ⟨h1, h⟩ := He.ba h
  obtain ⟨h2, h⟩ := He.ba h
  obtain ⟨h3, h⟩ := He.ba h
  obtain ⟨h4, h5⟩ := He.ba h
  exact ⟨oexO_ok h1, of_decide_eq_true h2, of_decide_eq_true h3, of_decide_eq_true h4, h5⟩
def mkxB (K : PySem.W.Frag) (C fI : Addr) : Bool := oexB K C && (decide (PySem.W.findIn K (.ref C) "__init__" = some (some (.ref fI))) && decide (PySem.W.typeIn K (.ref fI) = some (.type "function")))
theorem mkxB_ok {K : PySem.W.Frag} {C fI : Addr} (h : mkxB K C fI = true) : MkXC K C fI := by
  obtain ⟨h1, h⟩ := He.ba h
  obtain ⟨h2, h3⟩ := He.ba h
  exact ⟨oexB_ok h1, of_decide_eq_true h2, of_decide_eq_true h3⟩
abbrev veMro : List Value := [.type "ValueError", .type "Exception", .type "BaseException", .type "object"]
def mkx0B (K : PySem.W.Frag) (C : Addr) : Bool := PySem.W.keepIn K (.ref C) && PySem.W.excIn K C veMro "ValueError.__new__"
theorem mkx0B_ok {K : PySem.W.Frag} {C : Addr} (h : mkx0B K C = true) : MkX0 K C := by
  obtain ⟨h1, h2⟩ := He.ba h
  exact ⟨h1, _, _, _, PySem.F.excBase_ValueError, h2⟩
def excB (K : PySem.W.Frag) (D : Addr) : Bool := decide (PySem.W.findIn K (.ref D) "__getattribute__" = some (some (.builtin "BaseException.__getattribute__"))) && (decide (PySem.W.findIn K (.ref D) "__getattr__" = some none) && (decide (PySem.W.subIn K (.ref D) (.type "BaseException") = some true) && (PySem.W.hasDictIn K D &&
  (decide (PySem.W.findIn K (.ref D) "__class__" = some (some (.builtin "object.__class__"))) && (decide (PySem.W.specialIn K (.builtin "object.__class__") "__get__" = some (some (.builtin "getset_descriptor.__get__"))) && (decide (PySem.W.takesIn K (.builtin "object.__class__") = some true) && decide (PySem.W.mroIn K D (.type "object") = some true)))))))
theorem excB_ok {K : PySem.W.Frag} {D : Addr} (h : excB K D = true) : ExcC K D := by
  obtain ⟨h1, h⟩ := He.ba h
  obtain ⟨h2, h⟩ := He.ba h
  obtain ⟨h3, h⟩ := He.ba h
  obtain ⟨h4, h⟩ := He.ba h
  obtain ⟨h5, h⟩ := He.ba h
  obtain ⟨h6, h⟩ := He.ba h
  obtain ⟨h7, h8⟩ := He.ba h
  exact ⟨of_decide_eq_true h1, of_decide_eq_true h2, of_decide_eq_true h3, h4, of_decide_eq_true h5, of_decide_eq_true h6, of_decide_eq_true h7, of_decide_eq_true h8⟩
/-- own exception classes: which is which (up: pairs of a class and one above it) -/
def isXTbl (cs : List Str) (up : List (Str × Str)) : Str → Tg → Option Bool := fun C u => match u with
  | .cls D => if C ∈ cs ∧ D ∈ cs then some (decide (C = D) || decide ((C, D) ∈ up)) else none
  | .ty n => if C ∈ cs ∧ n = "ValueError" then some true else none
def isXB (cs : List Str) (up : List (Str × Str)) : Fact := fun K => cs.all fun a => excB K (He.ga K a) && (decide (PySem.W.kitOne K (.ref (He.ga K a)) (.type "ValueError") = some true) && cs.all fun b => decide (PySem.W.kitOne K (.ref (He.ga K a)) (.ref (He.ga K b)) = some (decide (a = b) || decide ((a, b) ∈ up))))
theorem isXB_ok {G : Gx} {cs : List Str} {up : List (Str × Str)} (h : isXB cs up G.K = true) (hm : ∀ c ∈ cs, G.mg c = some (.ref (He.ga G.K c))) : IsTabX G (isXTbl cs up) := by
  refine ⟨fun C u b Ca uv hb hC hu => ?_⟩
  have key : ∀ a ∈ cs, excB G.K (He.ga G.K a) = true ∧ PySem.W.kitOne G.K (.ref (He.ga G.K a)) (.type "ValueError") = some true ∧ ∀ b ∈ cs, PySem.W.kitOne G.K (.ref (He.ga G.K a)) (.ref (He.ga G.K b)) = some (decide (a = b) || decide ((a, b) ∈ up)) := fun a ha => by
    obtain ⟨h1, h2⟩ := He.ba (List.all_eq_true.mp h a ha)
    obtain ⟨h3, h4⟩ := He.ba h2
    exact ⟨h1, of_decide_eq_true h3, fun b hb => of_decide_eq_true (List.all_eq_true.mp h4 b hb)⟩
  cases u with
  | ty n =>
    simp only [isXTbl] at hb
    split at hb
    · rename_i hc
      cases hb
      obtain ⟨k1, k2, _⟩ := key C hc.1
      have e := (hm C hc.1).symm.trans hC
      cases e
      obtain rfl : uv = .type n := hu
      rw [hc.2]
      exact ⟨excB_ok k1, k2⟩
    · cases hb
  | cls D =>
    simp only [isXTbl] at hb
    split at hb
    · rename_i hc
      cases hb
      obtain ⟨k1, _, k3⟩ := key C hc.1
      have e := (hm C hc.1).symm.trans hC
      cases e
      obtain ⟨a, e1, rfl⟩ := hu
      have e := (hm D hc.2).symm.trans e1
      cases e
      exact ⟨excB_ok k1, k3 D hc.2⟩
    · cases hb
def xfldB (flds : List (Str × Str)) : Fact := fun K => flds.all fun p => (He.Fa.glo p.1).ok K && (oexB K (He.ga K p.1) && (decide (PySem.W.findIn K (.ref (He.ga K p.1)) p.2 = some none) && xfB K (He.ga K p.1)))
theorem xOk_of {h : Heap} {K : PySem.W.Frag} {mg : Str → Option Value} {base : Heap} {flds : List (Str × Str)} (X : K.In h) (G : h.Ns mainGlobals mg) (c : xfldB flds K = true) : XOk ⟨K, mg, base⟩ (ctOf flds) := fun Cn f Ca hc hm => by
  obtain ⟨h1, h2⟩ := He.ba (List.all_eq_true.mp c (Cn, f) (of_decide_eq_true hc))
  obtain ⟨h3, h4⟩ := He.ba h2
  obtain ⟨h5, h6⟩ := He.ba h4
  have e := (He.glo_ok X G h1).symm.trans hm
  cases e
  exact ⟨oexB_ok h3, of_decide_eq_true h5, xfB_ok h6⟩
/-- an exception class made by a call, its own __init__ keeping f -/
structure XKCal (P : Program) (w : World) (K : PySem.W.Frag) (mg : Str → Option Value) (base : Heap) (Cn : Str) (k : Nat) (f : Den) : Prop where
  of : ∃ g fd ps n h, mg Cn = some (.ref (He.ga K Cn)) ∧ MkXC K (He.ga K Cn) g ∧ FnOk P w K mg base CX0 k g fd ps (spD ⟨K, mg, base⟩ false n h) ∧ Binds K fd ps [] ∧ f = withD n [] (noEx h)
theorem xkcal_mk {P : Program} {w : World} {K : PySem.W.Frag} {mg : Str → Option Value} {base : Heap} {Cn : Str} {k n : Nat} {g : Addr} {fd : FuncData} {ps : List Str} {h : Den} (hC : mg Cn = some (.ref (He.ga K Cn))) (M : MkXC K (He.ga K Cn) g) (F : FnOk P w K mg base CX0 k g fd ps (spD ⟨K, mg, base⟩ false n h)) (hb : Binds K fd ps []) : XKCal P w K mg base Cn k (withD n [] (noEx h)) :=
  ⟨g, fd, ps, n, h, hC, M, F, hb, rfl⟩
section
variable {X : Cx} {wish : WX} {Cn : Str} {j k : Nat} {f : Den} {p pos : Pos} {e : Expr} {es : List Expr} {t : TA} {da : Ls → R (List Dv)}
theorem e_mkX (C : XKCal X.prog X.w X.K X.mg X.base Cn j f) (hr : Room (k + 1) X.A) (ha : DA X wish (e :: es) t da) (hjk : j ≤ k := by decide) (hg : Gl X Cn := by rfl) (hdb : (Cn == ("__debug__" : Str)) = false := by decide) (he : starEach (e :: es) X.env = (false, eval e X.env) :: starEach es X.env := by rfl)
    (hpl : (backTo pos (starEach es X.env)).any (·.1) = false := by rfl) : DE X wish (.Call (.Name Cn p) (e :: es) [] pos) (tMkX (gx X) wish (He.ga X.K Cn) f t) (dMkX Cn f da) := by
  obtain ⟨g, fd, ps, n, h, hC, M, F, hb, rfl⟩ := C.of
  exact de_mkX (mkXD_of0 M (F.mono hjk) hr hb .nil fun _ => .nil) hg hC ha hdb he hpl
theorem e_mkX0 (M : MkX0 X.K (He.ga X.K Cn)) (hC : X.mg Cn = some (.ref (He.ga X.K Cn))) (hg : Gl X Cn := by rfl) (hdb : (Cn == ("__debug__" : Str)) = false := by decide) : DE X wish (.Call (.Name Cn p) [] [] pos) (tMkX0 (He.ga X.K Cn)) (dMkX0 Cn) := de_mkX0 M hg hC hdb
theorem e_tyVE (B : Free X.mg) (hg : Gl X "ValueError" := by rfl) : DE X wish (.Name "ValueError" pos) (tC (.ty "ValueError")) (dC (.ty "ValueError")) := de_ty hg B.no' PyProof.Rows.Boot.«ValueError»
theorem e_isX {tb : Str → Tg → Option Bool} {a c : Expr} {ta : TA} {da : Ls → R (List Rd)} (B : Free X.mg) (T : IsTabX (gx X) tb) (ha : DAr X wish [a, c] ta da) (hg : Gl X "isinstance" := by rfl) (he : starEach [a, c] X.env = (false, eval a X.env) :: starEach [c] X.env := by rfl) (hpl : (backTo pos (starEach [c] X.env)).any (·.1) = false := by rfl) : DE X wish (.Call (.Name "isinstance" p) [a, c] [] pos) (tCB (rIsX X.K) ta) (dCM (fIsX tb) da) := de_isX T hg B.no' bt_isinstance ha he hpl
end
end DD

/-! D32: i in range(n) -/
namespace DD
open PySem L2
open PyProof.Rows hiding St
section
variable {prog : Program} {w : World} {A : Around} {E : Value → Shared → Prop} {s : Shared}
theorem in_range {r : Addr} {a b c i : Int} {ti t u v : Tok} {Q : Value → Shared → Prop} (hr : IsRange s.heap r a b c t u v) (h : Q (.bool (Builtin.Range.rangePlace? a b c i).isSome) s) : wpAny (model prog w) A (compareOp .In (.int i ti) (.ref r)) Q E s := by
  have ty : s.TypeIs (.ref r) "range" := ⟨_, hr, rfl⟩
  refine In_slot ty PySem.F.slot_range_contains (wpAny_call_entry PySem.F.slot_range_contains ty PySem.F.entry_range_contains ?_ (PySem.F.args_range_contains_2 _ _))
  unfold Builtin.«range.__contains__»
  refine wpAny_bind (wpAny_of_eq (a := ((Value.ref r : Value), [Value.int i ti])) (by first | rfl | (simp only [slotArgs]; rfl)) ?_)
  refine wpAny_bind (wpAny_rule (wpAny_bind (wpAny_rangeFields hr (wpAny_pure ⟨_, rfl, wpAny_truthy_bool h⟩))))
end
/-- i in range(n) -/
def tInR (ta tn : TE) : TE := fun σ H Q => ta σ H fun x H1 => tn σ H1 fun y H2 => ∃ n : Int, y = .int n ∧ ∃ i : Int, x = .int i ∧ (0 : Int) = 0 ∧ Q (.bl (decide (0 ≤ i ∧ i < n))) H2
theorem place_one {n i : Int} : (Builtin.Range.rangePlace? 0 n 1 i).isSome = decide (0 ≤ i ∧ i < n) := by
  unfold Builtin.Range.rangePlace?
  by_cases h1 : 0 ≤ i
  · by_cases h2 : i < n
    · simp [h1, h2]
    · simp [h1, h2]
  · simp [h1]
theorem pe_inR {X : Cx} {a e : Expr} {ta tn : TE} {p p2 pos : Pos} (hg : Gl X "range") (hm : X.mg "range" = none) (ha : PE X a ta) (hn : PE X e tn) (na : starEach [e] X.env = (false, eval e X.env) :: starEach [] X.env := by rfl)
    (hb : behindInMarks .In (.Call (.Name "range" p) [e] [] p2) = false := by rfl) : PE X (.Compare a [.In] [.Call (.Name "range" p) [e] [] p2] pos) (tInR ta tn) := by
  refine ⟨fun pins s σ H Q I h => ?_⟩
  refine wpAny_Compare1 (thn (ha.run pins s σ H _ I h) fun v s1 ⟨x, H1, I1, r1, q1⟩ => ?_) hb
  refine wpAny_mono (prg_1 hg hm hn na pins s1 σ H1 (fun lo hi H2 => ∃ i : Int, x = .int i ∧ lo = 0 ∧ Q (.bl (decide (0 ≤ i ∧ i < hi))) H2) I1 q1) (fun y s2 hy => ?_) fun _ _ z => z
  · obtain ⟨r, lo, hi, t, u, v', H2, rfl, hr, I2, i, rfl, rfl, q⟩ := hy
    obtain ⟨ti, rfl⟩ := r1
    refine in_range hr ⟨.bl _, H2, I2, ?_, q⟩
    rw [place_one]
    rfl
def dInR (d dn : Ls → R Dv) : Ls → R Dv := fun s => (d s).bind fun x s => (dn s).bind fun y s => match x, y with
  | .int i, .int n => .ok (.bl (decide (0 ≤ i ∧ i < n))) s
  | _, _ => .stuck
theorem sim_inR {G : Gx} {wish : WX} {ta tn : TE} {d dn : Ls → R Dv} (ha : Sim G (rV G) wish ta d) (hn : Sim G (rV G) wish tn dn) : Sim G (rV G) wish (tInR ta tn) (dInR d dn) := fun B W σ s Q e p =>
  ha B W σ s _ e (Post.bind (rep := rV G) (rep2 := rV G) p fun x s1 v W1 _ e1 z1 r1 p1 => hn B W1 σ s1 _ e1 (Post.bind (rep := rV G) (rep2 := rV G) p1 fun y s2 u W2 _ e2 z2 r2 p2 => by
    split at p2 <;> first | exact p2.elim | skip
    exact ⟨_, Rep.int_inv r2, _, Rep.int_inv r1, rfl, p2 _ W2 e2 Stp.refl (.bl _)⟩))
theorem de_inR {X : Cx} {wish : WX} {a e : Expr} {ta tn : TE} {d dn : Ls → R Dv} {p p2 pos : Pos} (F : Free X.mg) (ha : DE X wish a ta d) (hn : DE X wish e tn dn) (hg : Gl X "range" := by rfl) (na : starEach [e] X.env = (false, eval e X.env) :: starEach [] X.env := by rfl)
    (hb : behindInMarks .In (.Call (.Name "range" p) [e] [] p2) = false := by rfl) : DE X wish (.Compare a [.In] [.Call (.Name "range" p) [e] [] p2] pos) (tInR ta tn) (dInR d dn) := ⟨pe_inR hg F.no' ha.pe hn.pe na hb, sim_inR ha.sim hn.sim⟩
end DD

/-! E1: plain reasoning over the dens: what holds behind an expression, a statement, a call -/
namespace DD
open PySem L2
open PyProof.Rows hiding St
/-- behind an expression: E if an error flies -/
inductive Ok {α : Type} (E : Ex → Ls → Prop) : R α → (α → Ls → Prop) → Prop
  | ok {x : α} {s : Ls} {Q : α → Ls → Prop} : Q x s → Ok E (.ok x s) Q
  | err {x : Ex} {s : Ls} {Q : α → Ls → Prop} : E x s → Ok E (.err x s) Q
def NoL : Ex → Ls → Prop := fun _ _ => False
def NoM : Ex → List Ob → Prop := fun _ _ => False
structure Po where
  nx : Ls → Prop
  rt : Dv → Ls → Prop
  ct : Ls → Prop := fun _ => False
  bk : Ls → Prop := fun _ => False
  er : Ex → Ls → Prop := NoL
/-- behind a statement -/
inductive Go : Fl → Po → Prop
  | nx {s : Ls} {D : Po} : D.nx s → Go (.nx s) D
  | rt {x : Dv} {s : Ls} {D : Po} : D.rt x s → Go (.rt x s) D
  | ct {s : Ls} {D : Po} : D.ct s → Go (.ct s) D
  | bk {s : Ls} {D : Po} : D.bk s → Go (.bk s) D
  | er {x : Ex} {s : Ls} {D : Po} : D.er x s → Go (.er x s) D
/-- behind a call -/
inductive CaE (E : Ex → List Ob → Prop) : RF → (Dv → List Ob → Prop) → Prop
  | ok {x : Dv} {m : List Ob} {Q : Dv → List Ob → Prop} : Q x m → CaE E (.ok x m) Q
  | err {x : Ex} {m : List Ob} {Q : Dv → List Ob → Prop} : E x m → CaE E (.err x m) Q
/-- behind a call that raises nothing -/
abbrev Ca (r : RF) (Q : Dv → List Ob → Prop) : Prop := CaE NoM r Q
def up (E : Ex → Ls → Prop) (s : Ls) : Ex → List Ob → Prop := fun x m => E x { s with mem := m }
@[simp] theorem up_no {s : Ls} : up NoL s = NoM := rfl
section
variable {α : Type} {E : Ex → Ls → Prop} {F : Ex → List Ob → Prop}
@[simp] theorem ok_ok {x : α} {s : Ls} {Q : α → Ls → Prop} : Ok E (.ok x s) Q ↔ Q x s := ⟨fun h => by cases h; assumption, .ok⟩
@[simp] theorem ok_err {x : Ex} {s : Ls} {Q : α → Ls → Prop} : Ok E (.err x s) Q ↔ E x s := ⟨fun h => by cases h; assumption, .err⟩
@[simp] theorem ok_stuck {Q : α → Ls → Prop} : Ok E .stuck Q ↔ False := ⟨fun h => (by cases h), False.elim⟩
@[simp] theorem go_nx {s : Ls} {D : Po} : Go (.nx s) D ↔ D.nx s := ⟨fun h => by cases h; assumption, .nx⟩
@[simp] theorem go_rt {x : Dv} {s : Ls} {D : Po} : Go (.rt x s) D ↔ D.rt x s := ⟨fun h => by cases h; assumption, .rt⟩
@[simp] theorem go_ct {s : Ls} {D : Po} : Go (.ct s) D ↔ D.ct s := ⟨fun h => by cases h; assumption, .ct⟩
@[simp] theorem go_bk {s : Ls} {D : Po} : Go (.bk s) D ↔ D.bk s := ⟨fun h => by cases h; assumption, .bk⟩
@[simp] theorem go_er {x : Ex} {s : Ls} {D : Po} : Go (.er x s) D ↔ D.er x s := ⟨fun h => by cases h; assumption, .er⟩
@[simp] theorem go_stuck {D : Po} : Go .stuck D ↔ False := ⟨fun h => (by cases h), False.elim⟩
@[simp] theorem ca_ok {x : Dv} {m : List Ob} {Q : Dv → List Ob → Prop} : CaE F (.ok x m) Q ↔ Q x m := ⟨fun h => by cases h; assumption, .ok⟩
@[simp] theorem ca_err {x : Ex} {m : List Ob} {Q : Dv → List Ob → Prop} : CaE F (.err x m) Q ↔ F x m := ⟨fun h => by cases h; assumption, .err⟩
@[simp] theorem ca_stuck {Q : Dv → List Ob → Prop} : CaE F .stuck Q ↔ False := ⟨fun h => (by cases h), False.elim⟩
theorem Ok.mono {r : R α} {Q Q' : α → Ls → Prop} (h : Ok E r Q) (k : ∀ x s, Q x s → Q' x s) : Ok E r Q' := by
  cases h with
  | ok q => exact .ok (k _ _ q)
  | err q => exact .err q
theorem CaE.mono {r : RF} {Q Q' : Dv → List Ob → Prop} (h : CaE F r Q) (k : ∀ x s, Q x s → Q' x s) : CaE F r Q' := by
  cases h with
  | ok q => exact .ok (k _ _ q)
  | err q => exact .err q
theorem CaE.monoE {F' : Ex → List Ob → Prop} {r : RF} {Q Q' : Dv → List Ob → Prop} (h : CaE F r Q) (k : ∀ x s, Q x s → Q' x s) (l : ∀ x m, F x m → F' x m) : CaE F' r Q' := by
  cases h with
  | ok q => exact .ok (k _ _ q)
  | err q => exact .err (l _ _ q)
theorem Go.mono {r : Fl} {D D' : Po} (h : Go r D) (k1 : ∀ s, D.nx s → D'.nx s) (k2 : ∀ x s, D.rt x s → D'.rt x s) (k3 : ∀ s, D.ct s → D'.ct s) (k4 : ∀ s, D.bk s → D'.bk s) (k5 : ∀ x s, D.er x s → D'.er x s) : Go r D' := by
  cases h with
  | nx q => exact .nx (k1 _ q)
  | rt q => exact .rt (k2 _ _ q)
  | ct q => exact .ct (k3 _ q)
  | bk q => exact .bk (k4 _ q)
  | er q => exact .er (k5 _ _ q)
theorem Ca.ex {r : RF} {x : Dv} (h : Ca r fun y _ => y = x) : ∃ m, r = .ok x m := by
  cases h with
  | ok q => subst q; exact ⟨_, rfl⟩
  | err q => exact q.elim
end
section
variable {α β : Type} {E : Ex → Ls → Prop}
@[simp] theorem ok_bind {r : R α} {f : α → Ls → R β} {Q : β → Ls → Prop} : Ok E (r.bind f) Q ↔ Ok E r fun x s => Ok E (f x s) Q := by cases r <;> simp
@[simp] theorem ok_of {o : Option α} {s : Ls} {Q : α → Ls → Prop} : Ok E (R.of o s) Q ↔ ∃ x, o = some x ∧ Q x s := by cases o <;> simp
@[simp] theorem ok_r {r : RF} {s : Ls} {Q : Dv → Ls → Prop} : Ok E (r.r s) Q ↔ CaE (up E s) r fun x m => Q x { s with mem := m } := by cases r <;> simp [RF.r, up]
@[simp] theorem ok_ite {c : Prop} [Decidable c] {a b : R α} {Q : α → Ls → Prop} : Ok E (if c then a else b) Q ↔ (if c then Ok E a Q else Ok E b Q) := by by_cases h : c <;> simp [h]
@[simp] theorem go_fl {r : R α} {f : α → Ls → Fl} {D : Po} : Go (r.fl f) D ↔ Ok D.er r fun x s => Go (f x s) D := by cases r <;> simp
@[simp] theorem go_ite {c : Prop} [Decidable c] {a b : Fl} {D : Po} : Go (if c then a else b) D ↔ (if c then Go a D else Go b D) := by by_cases h : c <;> simp [h]
/-! statements -/
theorem go_seq {d r : Ls → Fl} {s : Ls} {D : Po} : Go (dSeq d r s) D ↔ Go (d s) { D with nx := fun s => Go (r s) D } := by
  unfold dSeq
  cases d s <;> simp
theorem go_next {s : Ls} {D : Po} : Go (dNext s) D ↔ D.nx s := by unfold dNext; simp
theorem go_cont {s : Ls} {D : Po} : Go (dCont s) D ↔ D.ct s := by unfold dCont; simp
theorem go_break {s : Ls} {D : Po} : Go (dBreak s) D ↔ D.bk s := by unfold dBreak; simp
theorem go_retN {s : Ls} {D : Po} : Go (dRetN s) D ↔ D.rt .non s := by unfold dRetN; simp
theorem go_ret {d : Ls → R Dv} {s : Ls} {D : Po} : Go (dRet d s) D ↔ Ok D.er (d s) D.rt := by unfold dRet; cases d s <;> simp
theorem go_if {c : Ls → R Bool} {a b : Ls → Fl} {s : Ls} {D : Po} : Go (dIf c a b s) D ↔ Ok D.er (c s) fun x s => if x = true then Go (a s) D else Go (b s) D := by
  unfold dIf; rw [go_fl]; simp only [go_ite]
theorem go_drop {d : Ls → R α} {s : Ls} {D : Po} : Go (dDrop d s) D ↔ Ok D.er (d s) fun _ s => D.nx s := by unfold dDrop; cases d s <;> simp
/-- an assignment's target -/
def To (o : Option Ls) (N : Ls → Prop) : Prop := ∃ s, o = some s ∧ N s
theorem to_some {s : Ls} {N : Ls → Prop} : To (some s) N ↔ N s := by simp [To]
theorem to_none {N : Ls → Prop} : To none N ↔ False := by simp [To]
theorem go_asg {d : Ls → R Dv} {g : Dv → Ls → Option Ls} {s : Ls} {D : Po} : Go (dAsg d g s) D ↔ Ok D.er (d s) fun x s => To (g x s) D.nx := by
  unfold dAsg; rw [go_fl]
  cases d s with
  | ok x s1 => simp only [ok_ok]; cases g x s1 <;> simp [to_some, to_none]
  | _ => simp
theorem to_V {i : Nat} {x : Dv} {s : Ls} {N : Ls → Prop} : To (stV i x s) N ↔ i < s.loc.length ∧ N { s with loc := s.loc.set i (.val x) } := by
  unfold stV
  by_cases h : i < s.loc.length <;> simp [h, to_some, to_none]
theorem to_bind {o : Option Ls} {f : Ls → Option Ls} {N : Ls → Prop} : To (o.bind f) N ↔ To o fun s => To (f s) N := by cases o <;> simp [to_some, to_none]
theorem to_tup {d : List Dv → Ls → Option Ls} {xs : List Dv} {s : Ls} {N : Ls → Prop} : To (stTup d (.tup xs) s) N ↔ To (d xs s) N := Iff.rfl
theorem to_cons {d : Dv → Ls → Option Ls} {r : List Dv → Ls → Option Ls} {x : Dv} {xs : List Dv} {s : Ls} {N : Ls → Prop} : To (stCons d r (x :: xs) s) N ↔ To (d x s) fun s => To (r xs s) N := to_bind
theorem to_nil {s : Ls} {N : Ls → Prop} : To (stNil [] s) N ↔ N s := to_some
/-! expressions -/
theorem ok_c {x : Dv} {s : Ls} {Q : Dv → Ls → Prop} : Ok E (dC x s) Q ↔ Q x s := ok_ok
theorem ok_dv {d : Ls → R Dv} {s : Ls} {Q : Rd → Ls → Prop} : Ok E (dDv d s) Q ↔ Ok E (d s) fun x s => Q (.dv x) s := by unfold dDv; simp only [ok_bind, ok_ok]
theorem ok_op {f : Dv → Dv → Option Dv} {a b : Ls → R Rd} {s : Ls} {Q : Dv → Ls → Prop} : Ok E (dOp f a b s) Q ↔ Ok E (a s) fun x s => Ok E (b s) fun y s => ∃ z, ((x.look s).bind fun u => (y.look s).bind fun v => f u v) = some z ∧ Q z s := by
  unfold dOp; simp only [ok_bind, ok_of]
theorem ok_un {f : Dv → Option Dv} {a : Ls → R Rd} {s : Ls} {Q : Dv → Ls → Prop} : Ok E (dUn f a s) Q ↔ Ok E (a s) fun x s => ∃ z, (x.look s).bind f = some z ∧ Q z s := by unfold dUn; simp only [ok_bind, ok_of]
theorem ok_nil {s : Ls} {Q : List α → Ls → Prop} : Ok E (dNil s) Q ↔ Q [] s := ok_ok
theorem ok_cons {d : Ls → R α} {r : Ls → R (List α)} {s : Ls} {Q : List α → Ls → Prop} : Ok E (dCons d r s) Q ↔ Ok E (d s) fun x s => Ok E (r s) fun xs s => Q (x :: xs) s := by unfold dCons; simp only [ok_bind, ok_ok]
theorem ok_tup {d : Ls → R (List Dv)} {s : Ls} {Q : Dv → Ls → Prop} : Ok E (dTup d s) Q ↔ Ok E (d s) fun xs s => if szOk xs.length = true then Q (.tup xs) s else False := by unfold dTup; simp only [ok_bind, ok_ite, ok_ok, ok_stuck]
theorem ok_lst {d : Ls → R (List Dv)} {s : Ls} {Q : Dv → Ls → Prop} : Ok E (dLst d s) Q ↔ Ok E (d s) fun xs s => if szOk xs.length = true then Q (.lst xs) s else False := by unfold dLst; simp only [ok_bind, ok_ite, ok_ok, ok_stuck]
theorem ok_tru {d : Ls → R Rd} {s : Ls} {Q : Bool → Ls → Prop} : Ok E (dTru d s) Q ↔ Ok E (d s) fun x s => ∃ z, (x.look s).bind fTru = some z ∧ Q z s := by unfold dTru; simp only [ok_bind, ok_of]
theorem ok_test {d : Ls → R Dv} {s : Ls} {Q : Bool → Ls → Prop} : Ok E (dTest d s) Q ↔ Ok E (d s) fun x s => ∃ b, x = .bl b ∧ Q b s := by
  unfold dTest; rw [ok_bind]
  cases d s with
  | ok x s1 =>
    simp only [ok_ok]
    cases x <;> simp
  | _ => simp
theorem ok_notB {d : Ls → R Bool} {s : Ls} {Q : Bool → Ls → Prop} : Ok E (dNotB d s) Q ↔ Ok E (d s) fun b s => Q (!b) s := by unfold dNotB; rw [ok_bind]; simp only [ok_ok]
theorem ok_andB {d r : Ls → R Bool} {s : Ls} {Q : Bool → Ls → Prop} : Ok E (dAndB d r s) Q ↔ Ok E (d s) fun b s => if b = true then Ok E (r s) Q else Q false s := by unfold dAndB; simp only [ok_bind, ok_ite, ok_ok]
theorem ok_orB {d r : Ls → R Bool} {s : Ls} {Q : Bool → Ls → Prop} : Ok E (dOrB d r s) Q ↔ Ok E (d s) fun b s => if b = true then Q true s else Ok E (r s) Q := by unfold dOrB; simp only [ok_bind, ok_ite, ok_ok]
theorem ok_ifE {c : Ls → R Bool} {d r : Ls → R Dv} {s : Ls} {Q : Dv → Ls → Prop} : Ok E (dIfE c d r s) Q ↔ Ok E (c s) fun b s => if b = true then Ok E (d s) Q else Ok E (r s) Q := by unfold dIfE; simp only [ok_bind, ok_ite]
theorem ok_notV {d : Ls → R Rd} {s : Ls} {Q : Dv → Ls → Prop} : Ok E (dNotV d s) Q ↔ Ok E (d s) fun x s => ∃ b, (x.look s).bind fTru = some b ∧ Q (.bl (!b)) s := by
  unfold dNotV; simp only [ok_bind, ok_of]
  cases d s with
  | ok x s1 =>
    simp only [ok_ok]
    cases (x.look s1).bind fTru <;> simp
  | _ => simp
theorem ok_fn {f : Den} {da : Ls → R (List Dv)} {s : Ls} {Q : Dv → Ls → Prop} : Ok E (dFn f da s) Q ↔ Ok E (da s) fun xs s => CaE (up E s) (f xs s.mem) fun x m => Q x { s with mem := m } := by unfold dFn; simp only [ok_bind, ok_r]
theorem ok_cb {f : List Dv → Option Dv} {da : Ls → R (List Rd)} {s : Ls} {Q : Dv → Ls → Prop} : Ok E (dCB f da s) Q ↔ Ok E (da s) fun rs s => ∃ z, (lookAll rs s).bind f = some z ∧ Q z s := by unfold dCB; simp only [ok_bind, ok_of]
theorem ok_cm {f : List Ob → List Dv → Option Dv} {da : Ls → R (List Rd)} {s : Ls} {Q : Dv → Ls → Prop} : Ok E (dCM f da s) Q ↔ Ok E (da s) fun rs s => ∃ z, (lookAll rs s).bind (f s.mem) = some z ∧ Q z s := by unfold dCM; simp only [ok_bind, ok_of]
end
/-! calls -/
theorem ca_def {n N : Nat} {B : Ls → Fl} {xs : List Dv} {m : List Ob} {Q : Dv → List Ob → Prop} (h : xs.length = n) (g : Go (B ⟨startL N xs, m, []⟩) { nx := fun s => Q .non s.mem, rt := fun x s => Q x s.mem }) : Ca (withD n [] (noEx (dDef N B)) xs m) Q := by
  unfold withD noEx dDef
  rw [if_pos (by simpa using h), List.append_nil]
  revert g
  cases B ⟨startL N xs, m, []⟩ <;> intro g <;> simp [NoL] at g ⊢ <;> exact g
theorem ca_defE {n N : Nat} {B : Ls → Fl} {xs : List Dv} {m : List Ob} {F : Ex → List Ob → Prop} {Q : Dv → List Ob → Prop} (h : xs.length = n) (g : Go (B ⟨startL N xs, m, []⟩) { nx := fun s => Q .non s.mem, rt := fun x s => Q x s.mem, er := fun x s => F x s.mem }) : CaE F (withD n [] (dDef N B) xs m) Q := by
  unfold withD dDef
  rw [if_pos (by simpa using h), List.append_nil]
  revert g
  cases B ⟨startL N xs, m, []⟩ <;> intro g <;> simp at g ⊢ <;> exact g
/-! loops -/
theorem go_for {src : Ls → R Src} {g : Dv → Ls → Option Ls} {b : Ls → Fl} {s : Ls} {D : Po} : Go (dFor src g b s) D ↔ Ok D.er (src s) fun sc s => Go (dForGo sc.chk g b sc.items s) D := by unfold dFor; rw [go_fl]
/-- a loop by its rest -/
theorem for_rule {chk : List Ob → Bool} {g : Dv → Ls → Option Ls} {b : Ls → Fl} {D : Po} (I : List Dv → Ls → Prop) (hc : ∀ l s, I l s → chk s.mem = true) (h0 : ∀ s, I [] s → D.nx s)
    (h1 : ∀ d l s, I (d :: l) s → To (g d s) fun s1 => Go (b s1) { nx := I l, rt := D.rt, ct := I l, bk := D.nx, er := D.er }) : ∀ (l : List Dv) (s : Ls), I l s → Go (dForGo chk g b l s) D
  | [], s, h => by
    unfold dForGo
    rw [if_pos (hc _ _ h)]
    exact .nx (h0 s h)
  | d :: l, s, h => by
    unfold dForGo
    rw [if_pos (hc _ _ h)]
    obtain ⟨s1, e, q⟩ := h1 d l s h
    simp only [e]
    revert q
    cases b s1 <;> intro q <;> simp at q ⊢ <;> first | exact for_rule I hc h0 h1 l _ q | exact q
end DD

/-! E2: plain reasoning over the dens, on: names, new lists, mutation, objects -/
namespace DD
open PySem L2
open PyProof.Rows hiding St
section
variable {α : Type} {E : Ex → Ls → Prop} {loc : List Sl} {m : List Ob} {t : List (List Dv)} {s : Ls}
theorem ok_var {i : Nat} {Q : Dv → Ls → Prop} : Ok E (dVar i ⟨loc, m, t⟩) Q ↔ (match loc[i]? with
  | some (.val x) => Q x ⟨loc, m, t⟩
  | some (.own ds) => Q (.lst ds) ⟨loc.set i (.val (.lst ds)), m, t⟩
  | _ => False) := by
  unfold dVar
  cases h : loc[i]? with
  | none => simp only [h]; simp
  | some x => cases x <;> simp only [h] <;> simp
/-- what a slot shows -/
def vw (m : List Ob) : Sl → Option Dv
  | .val x => some (lookDv m x)
  | .own ds => some (.lst ds)
  | .no => none
theorem ok_slot {i : Nat} {Q : Rd → Ls → Prop} : Ok E (dSlot i ⟨loc, m, t⟩) Q ↔ (match loc[i]? with
  | some (.val _) => Q (.slot i) ⟨loc, m, t⟩
  | some (.own _) => Q (.slot i) ⟨loc, m, t⟩
  | _ => False) := by
  unfold dSlot
  cases h : loc[i]? with
  | none => simp only [h]; simp
  | some x => cases x <;> simp only [h] <;> simp
theorem look_slot {i : Nat} : (Rd.slot i).look ⟨loc, m, t⟩ = (match loc[i]? with
    | some (.own ds) => some (.lst ds)
    | some (.val x) => some (lookDv m x)
    | _ => none) := rfl
theorem look_dv {x : Dv} : (Rd.dv x).look s = some (lookDv s.mem x) := rfl
@[simp] theorem lookDv_int {i : Int} : lookDv m (.int i) = .int i := rfl
@[simp] theorem lookDv_str {i : Str} : lookDv m (.str i) = .str i := rfl
@[simp] theorem lookDv_bl {i : Bool} : lookDv m (.bl i) = .bl i := rfl
@[simp] theorem lookDv_non : lookDv m .non = .non := rfl
@[simp] theorem lookDv_tup {i : List Dv} : lookDv m (.tup i) = .tup i := rfl
@[simp] theorem lookDv_lst {i : List Dv} : lookDv m (.lst i) = .lst i := rfl
@[simp] theorem lookDv_scr {i : List Int} : lookDv m (.scr i) = .scr i := rfl
@[simp] theorem lookDv_ty {i : String} : lookDv m (.ty i) = .ty i := rfl
@[simp] theorem lookDv_cls {i : Str} : lookDv m (.cls i) = .cls i := rfl
theorem lookDv_reflst {n : Nat} {ds : List Dv} (h : m[n]? = some (.lst ds)) : lookDv m (.ref n) = .lst ds := by simp only [lookDv, h]
theorem lookDv_refins {n : Nat} {C : Str} {fs : List (Str × Dv)} (h : m[n]? = some (.ins C fs)) : lookDv m (.ref n) = .ref n := by simp only [lookDv, h]
/-! new lists -/
theorem ok_lstN {d : Ls → R (List Dv)} {Q : Nat → Ls → Prop} : Ok E (dLstN d s) Q ↔ Ok E (d s) fun xs s => if szOk xs.length = true then Q s.tmp.length (s.push xs) else False := by unfold dLstN dNew; simp only [ok_bind, ok_ite, ok_ok, ok_stuck]
theorem push_def {xs : List Dv} : Ls.push ⟨loc, m, t⟩ xs = ⟨loc, m, t ++ [xs]⟩ := rfl
theorem go_asgN {i : Nat} {d : Ls → R Nat} {D : Po} : Go (dAsgN i d s) D ↔ Ok D.er (d s) fun n s' => if n = s.tmp.length then To (stN i n s') D.nx else False := by
  unfold dAsgN; rw [go_fl]
  cases d s with
  | ok n s1 =>
    simp only [ok_ok, go_ite, go_stuck]
    by_cases h : n = s.tmp.length
    · rw [if_pos h, if_pos h]; cases stN i n s1 <;> simp [to_some, to_none]
    · rw [if_neg h, if_neg h]
  | _ => simp
theorem to_N {i n : Nat} {ds : List Dv} {N : Ls → Prop} (hn : n = t.length) : To (stN i n ⟨loc, m, t ++ [ds]⟩) N ↔ i < loc.length ∧ N ⟨loc.set i (.own ds), m, t⟩ := by
  subst hn
  unfold stN
  have e : (t ++ [ds])[t.length]? = some ds := by simp
  simp only [e]
  by_cases h : i < loc.length
  · rw [if_pos ⟨h, by simp⟩]; simp [To, h]
  · rw [if_neg (fun q => h q.1)]; simp [To, h]
/-- a new list in an empty row -/
theorem to_N0 {i : Nat} {ds : List Dv} {N : Ls → Prop} : To (stN i 0 ⟨loc, m, [ds]⟩) N ↔ i < loc.length ∧ N ⟨loc.set i (.own ds), m, []⟩ := to_N (t := []) rfl
theorem ok_settle {d : Ls → R Nat} {Q : Dv → Ls → Prop} : Ok E (dSettle d s) Q ↔ Ok E (d s) fun n s' => if n = s.tmp.length ∧ n + 1 = s'.tmp.length then (∃ ds, s'.tmp[n]? = some ds ∧ Q (.lst ds) { s' with tmp := s'.tmp.dropLast }) else False := by
  unfold dSettle; simp only [ok_bind, ok_ite, ok_stuck]
  cases d s with
  | ok n s1 =>
    simp only [ok_ok]
    by_cases h : n = s.tmp.length ∧ n + 1 = s1.tmp.length
    · rw [if_pos h, if_pos h]; cases s1.tmp[n]? <;> simp
    · rw [if_neg h, if_neg h]
  | _ => simp
theorem ok_store {d : Ls → R Nat} {Q : Dv → Ls → Prop} : Ok E (dStore d s) Q ↔ Ok E (d s) fun n s' => if n = s.tmp.length ∧ n + 1 = s'.tmp.length then (∃ ds, s'.tmp[n]? = some ds ∧ Q (.ref s'.mem.length) ⟨s'.loc, s'.mem ++ [.lst ds], s'.tmp.dropLast⟩) else False := by
  unfold dStore; simp only [ok_bind, ok_ite, ok_stuck]
  cases d s with
  | ok n s1 =>
    simp only [ok_ok]
    by_cases h : n = s.tmp.length ∧ n + 1 = s1.tmp.length
    · rw [if_pos h, if_pos h]; cases s1.tmp[n]? <;> simp
    · rw [if_neg h, if_neg h]
  | _ => simp
theorem ok_opN {f : Dv → Dv → Option (List Dv)} {a b : Ls → R Rd} {Q : Nat → Ls → Prop} : Ok E (dOpN f a b s) Q ↔ Ok E (a s) fun x s => Ok E (b s) fun y s => ∃ z, ((x.look s).bind fun u => (y.look s).bind fun v => f u v) = some z ∧ Q s.tmp.length (s.push z) := by
  unfold dOpN dNew; simp only [ok_bind]
  cases a s with
  | ok x s1 =>
    simp only [ok_ok]
    cases b s1 with
    | ok y s2 =>
      simp only [ok_ok]
      cases (x.look s2).bind fun u => (y.look s2).bind fun v => f u v <;> simp
    | _ => simp
  | _ => simp
theorem ok_cn {f : List Dv → Option (List Dv)} {da : Ls → R (List Rd)} {Q : Nat → Ls → Prop} : Ok E (dCN f da s) Q ↔ Ok E (da s) fun rs s => ∃ z, (lookAll rs s).bind f = some z ∧ Q s.tmp.length (s.push z) := by
  unfold dCN dNew; simp only [ok_bind]
  cases da s with
  | ok x s1 =>
    simp only [ok_ok]
    cases (lookAll x s1).bind f <;> simp
  | _ => simp
/-! mutation -/
theorem ok_mut {f : List Dv → List Dv → Option (List Dv × Dv)} {d : Ls → R Rd} {da : Ls → R (List Dv)} {Q : Dv → Ls → Prop} : Ok E (dMut f d da s) Q ↔ Ok E (d s) fun r s => (r.list s).isSome = true ∧ Ok E (da s) fun ys s => ∃ ds, r.list s = some ds ∧ ∃ ds' z, f ds ys = some (ds', z) ∧ Q z (r.put ds' s) := by
  unfold dMut; simp only [ok_bind]
  cases d s with
  | ok r s1 =>
    simp only [ok_ok]
    cases h : r.list s1 with
    | none => simp
    | some l =>
      simp only [Option.isSome_some, true_and, ok_bind]
      cases da s1 with
      | ok ys s2 =>
        simp only [ok_ok]
        cases h2 : r.list s2 with
        | none => simp
        | some ds =>
          simp only
          cases h3 : f ds ys with
          | none => simp [h3]
          | some p =>
            obtain ⟨a, b⟩ := p
            constructor
            · exact fun q => ⟨ds, rfl, a, b, h3, ok_ok.mp q⟩
            · rintro ⟨_, e1, _, _, e2, q⟩
              cases e1
              rw [h3] at e2
              cases e2
              exact ok_ok.mpr q
      | _ => simp
  | _ => simp
theorem go_setIx {d di : Ls → R Dv} {dr : Ls → R Rd} {D : Po} : Go (dSetIx d dr di s) D ↔ Ok D.er (d s) fun x s => Ok D.er (dr s) fun r s => Ok D.er (di s) fun i s => ∃ ds, r.list s = some ds ∧ ∃ k, i = .int k ∧ ∃ j, ixN ds.length k = some j ∧ D.nx (r.put (ds.set j x) s) := by
  unfold dSetIx; simp only [go_fl]
  cases d s with
  | ok x s1 =>
    simp only [ok_ok]
    cases dr s1 with
    | ok r s2 =>
      simp only [ok_ok]
      cases di s2 with
      | ok i s3 =>
        simp only [ok_ok]
        cases h : r.list s3 with
        | none => simp
        | some ds =>
          cases i with
          | int k =>
            simp only
            cases h2 : ixN ds.length k with
            | none => simp [h2]
            | some j => simp [h2]
          | _ => simp
      | _ => simp
    | _ => simp
  | _ => simp
theorem list_slot {i : Nat} : (Rd.slot i).list ⟨loc, m, t⟩ = (match loc[i]? with
    | some (.own ds) => some ds
    | some (.val (.ref n)) => (match m[n]? with
      | some (.lst ds) => some ds
      | _ => none)
    | _ => none) := rfl
theorem put_slot {i : Nat} {ds : List Dv} : (Rd.slot i).put ds ⟨loc, m, t⟩ = (match loc[i]? with
    | some (.own _) => ⟨loc.set i (.own ds), m, t⟩
    | some (.val (.ref n)) => ⟨loc, m.set n (.lst ds), t⟩
    | _ => ⟨loc, m, t⟩) := rfl
/-! objects -/
theorem ok_fld {ct : Str → Str → Bool} {f : Str} {d : Ls → R Dv} {Q : Dv → Ls → Prop} : Ok E (dFld ct f d s) Q ↔ Ok E (d s) fun x s => ∃ n, x = .ref n ∧ ∃ C fs, s.mem[n]? = some (.ins C fs) ∧ ct C f = true ∧ ∃ y, fs.lookup f = some y ∧ Q y s := by
  unfold dFld; rw [ok_bind]
  cases d s with
  | ok x s1 =>
    simp only [ok_ok]
    cases x with
    | ref n =>
      simp only
      cases h : s1.mem[n]? with
      | none => simp [h]
      | some o => cases o with
        | ins C fs =>
          simp only [ok_ite, ok_of, ok_stuck]
          constructor
          · intro q
            split at q
            · rename_i hc; obtain ⟨y, h1, h2⟩ := q; exact ⟨n, rfl, C, fs, h, hc, y, h1, h2⟩
            · exact q.elim
          · rintro ⟨n', e1, C', fs', e2, hc, y, h1, h2⟩
            cases e1
            rw [h] at e2; cases e2
            rw [if_pos hc]; exact ⟨y, h1, h2⟩
        | _ => simp [h]
    | _ => simp
  | _ => simp
theorem go_setF {ct : Str → Str → Bool} {f : Str} {dv d : Ls → R Dv} {D : Po} : Go (dSetF ct f dv d s) D ↔ Ok D.er (dv s) fun y s => Ok D.er (d s) fun x s => ∃ n, x = .ref n ∧ ∃ C fs, s.mem[n]? = some (.ins C fs) ∧ (ct C f = true ∧ fs.length < 1000) ∧ D.nx { s with mem := s.mem.set n (.ins C (putD f y fs)) } := by
  unfold dSetF; simp only [go_fl]
  cases dv s with
  | ok y s0 =>
    simp only [ok_ok]
    cases d s0 with
    | ok x s1 =>
      simp only [ok_ok]
      cases x with
      | ref n =>
        simp only
        cases h : s1.mem[n]? with
        | none => simp [h]
        | some o => cases o with
          | ins C fs =>
            simp only [go_ite, go_nx, go_stuck]
            constructor
            · intro q
              split at q
              · rename_i hc; exact ⟨n, rfl, C, fs, h, hc, q⟩
              · exact q.elim
            · rintro ⟨n', e1, C', fs', e2, hc, q⟩
              cases e1
              rw [h] at e2; cases e2
              rw [if_pos hc]; exact q
          | _ => simp [h]
      | _ => simp
    | _ => simp
  | _ => simp
theorem ok_mt {Cn x : Str} {f : Den} {d : Ls → R Dv} {da : Ls → R (List Dv)} {Q : Dv → Ls → Prop} : Ok E (dMt Cn x f d da s) Q ↔ Ok E (d s) fun o s => ∃ n, o = .ref n ∧ ∃ fs, s.mem[n]? = some (.ins Cn fs) ∧ fs.lookup x = none ∧ Ok E (da s) fun xs s => CaE (up E s) (f (.ref n :: xs) s.mem) fun y m => Q y { s with mem := m } := by
  unfold dMt; rw [ok_bind]
  cases d s with
  | ok o s1 =>
    simp only [ok_ok]
    cases o with
    | ref n =>
      simp only
      cases h : s1.mem[n]? with
      | none => simp [h]
      | some o => cases o with
        | ins C fs =>
          simp only [ok_ite, ok_bind, ok_r, ok_stuck]
          constructor
          · intro q
            split at q
            · rename_i hc; obtain ⟨rfl, hc⟩ := hc; exact ⟨n, rfl, fs, h, hc, q⟩
            · exact q.elim
          · rintro ⟨n', e1, fs', e2, hc, q⟩
            cases e1
            rw [h] at e2; cases e2
            rw [if_pos ⟨rfl, hc⟩]; exact q
        | _ => simp [h]
    | _ => simp
  | _ => simp
theorem ok_mk {Cn : Str} {f : Den} {da : Ls → R (List Dv)} {Q : Dv → Ls → Prop} : Ok E (dMk Cn f da s) Q ↔ Ok E (da s) fun xs s => CaE (up E s) (f (.ref s.mem.length :: xs) (s.mem ++ [.ins Cn []])) fun y m => y = .non ∧ Q (.ref s.mem.length) { s with mem := m } := by
  unfold dMk; rw [ok_bind]
  cases da s with
  | ok xs s1 =>
    simp only [ok_ok]
    cases f (.ref s1.mem.length :: xs) (s1.mem ++ [.ins Cn []]) with
    | ok y m => cases y <;> simp
    | err x m => simp [up]
    | stuck => simp
  | _ => simp
/-! things to walk -/
theorem ok_rng1 {d : Ls → R (List Dv)} {Q : Src → Ls → Prop} : Ok E (dRng1 d s) Q ↔ Ok E (d s) fun xs s => ∃ j, xs = [.int j] ∧ rngOk j = true ∧ Q ⟨rngItems 0 j.toNat, always⟩ s := by
  unfold dRng1; rw [ok_bind]
  cases d s with
  | ok xs s1 =>
    simp only [ok_ok]
    split
    · rename_i j
      constructor
      · intro q
        by_cases h : rngOk j = true
        · rw [if_pos h] at q; exact ⟨j, rfl, h, ok_ok.mp q⟩
        · rw [if_neg h] at q; exact (ok_stuck.mp q).elim
      · rintro ⟨_, e, h, q⟩
        cases e
        rw [if_pos h]; exact ok_ok.mpr q
    · rename_i h
      exact ⟨fun q => (ok_stuck.mp q).elim, fun ⟨j, e, _⟩ => absurd e (h j)⟩
  | _ => simp
theorem ok_rng2 {d : Ls → R (List Dv)} {Q : Src → Ls → Prop} : Ok E (dRng2 d s) Q ↔ Ok E (d s) fun xs s => ∃ i j, xs = [.int i, .int j] ∧ (rngOk i && rngOk j) = true ∧ Q ⟨rngItems i (j - i).toNat, always⟩ s := by
  unfold dRng2; rw [ok_bind]
  cases d s with
  | ok xs s1 =>
    simp only [ok_ok]
    split
    · rename_i i j
      constructor
      · intro q
        by_cases h : (rngOk i && rngOk j) = true
        · rw [if_pos h] at q; exact ⟨i, j, rfl, h, ok_ok.mp q⟩
        · rw [if_neg h] at q; exact (ok_stuck.mp q).elim
      · rintro ⟨_, _, e, h, q⟩
        cases e
        rw [if_pos h]; exact ok_ok.mpr q
    · rename_i h
      exact ⟨fun q => (ok_stuck.mp q).elim, fun ⟨i, j, e, _⟩ => absurd e (h i j)⟩
  | _ => simp
theorem ok_enum {d : Ls → R (List Dv)} {Q : Src → Ls → Prop} : Ok E (dEnum d s) Q ↔ Ok E (d s) fun xs s => ∃ ds, xs = [.lst ds] ∧ Q ⟨enumItems 0 0 ds, always⟩ s := by
  unfold dEnum; rw [ok_bind]
  cases d s with
  | ok xs s1 =>
    simp only [ok_ok]
    split
    · rename_i ds
      exact ⟨fun q => ⟨ds, rfl, ok_ok.mp q⟩, fun ⟨_, e, q⟩ => by cases e; exact ok_ok.mpr q⟩
    · rename_i h
      exact ⟨fun q => (ok_stuck.mp q).elim, fun ⟨j, e, _⟩ => absurd e (h j)⟩
  | _ => simp
theorem ok_zip {d : Ls → R (List Dv)} {Q : Src → Ls → Prop} : Ok E (dZip d s) Q ↔ Ok E (d s) fun xs s => ∃ ds es, xs = [.lst ds, .lst es] ∧ Q ⟨zipItems ds es, always⟩ s := by
  unfold dZip; rw [ok_bind]
  cases d s with
  | ok xs s1 =>
    simp only [ok_ok]
    split
    · rename_i ds es
      exact ⟨fun q => ⟨ds, es, rfl, ok_ok.mp q⟩, fun ⟨_, _, e, q⟩ => by cases e; exact ok_ok.mpr q⟩
    · rename_i h
      exact ⟨fun q => (ok_stuck.mp q).elim, fun ⟨j, k, e, _⟩ => absurd e (h j k)⟩
  | _ => simp
theorem ok_no {Q : Option Int → Ls → Prop} : Ok E (dNoPart s) Q ↔ Q none s := ok_ok
theorem ok_sl {a : Ls → R Rd} {l h : Ls → R (Option Int)} {Q : Dv → Ls → Prop} : Ok E (dSl a l h s) Q ↔ Ok E (a s) fun x s => Ok E (l s) fun lo s => Ok E (h s) fun hi s => ∃ z, (x.look s).bind (fSl lo hi) = some z ∧ Q z s := by unfold dSl; simp only [ok_bind, ok_of]
end
end DD

/-! E3: equality of plain values; reading by index -/
namespace DD
open PySem L2
open PyProof.Rows hiding St
/-- a plain value without truth values: nested at most k deep -/
inductive Pn : Nat → Dv → Prop
  | non {k : Nat} : Pn k .non
  | int {k : Nat} {i : Int} : Pn k (.int i)
  | str {k : Nat} {x : Str} : PyData.canLay0 (.str x) = true → Pn k (.str x)
  | tup {k : Nat} {ds : List Dv} : (∀ d ∈ ds, Pn k d) → Pn (k + 1) (.tup ds)
  | lst {k : Nat} {ds : List Dv} : (∀ d ∈ ds, Pn k d) → Pn (k + 1) (.lst ds)
mutual
theorem pn_toP : ∀ (x : Dv) (k : Nat), Pn k x → ∃ p, toP x = some p ∧ p.canLay0 = true ∧ p.depth ≤ k
  | .non, _, _ => ⟨_, rfl, by simp [PyData.canLay0], by simp [PyData.depth]⟩
  | .int i, _, _ => ⟨_, rfl, by simp [PyData.canLay0], by simp [PyData.depth]⟩
  | .str x, _, h => ⟨_, rfl, by cases h with | str h => exact h, by simp [PyData.depth]⟩
  | .tup ds, k, h => by
    cases h with
    | tup h =>
      obtain ⟨ps, h1, h2, h3⟩ := pn_toPs ds _ h
      exact ⟨.tuple ps, by simp [toP, h1], by simpa [PyData.canLay0] using h2, by simp [PyData.depth]; exact h3⟩
  | .lst ds, k, h => by
    cases h with
    | lst h =>
      obtain ⟨ps, h1, h2, h3⟩ := pn_toPs ds _ h
      exact ⟨.list ps, by simp [toP, h1], by simpa [PyData.canLay0] using h2, by simp [PyData.depth]; exact h3⟩
  | .bl _, _, h => nomatch h
  | .scr _, _, h => nomatch h
  | .ref _, _, h => nomatch h
  | .cls _, _, h => nomatch h
  | .ty _, _, h => nomatch h
theorem pn_toPs : ∀ (xs : List Dv) (k : Nat), (∀ d ∈ xs, Pn k d) → ∃ ps, toPs xs = some ps ∧ PyData.canLayAll0 ps = true ∧ PyData.depthAll ps ≤ k
  | [], _, _ => ⟨[], rfl, by simp [PyData.canLayAll0], by simp [PyData.depthAll]⟩
  | x :: xs, k, h => by
    obtain ⟨p, h1, h2, h3⟩ := pn_toP x k (h x (List.mem_cons_self ..))
    obtain ⟨ps, k1, k2, k3⟩ := pn_toPs xs k fun d hd => h d (List.mem_cons_of_mem _ hd)
    exact ⟨p :: ps, by simp [toPs, h1, k1], by simp [PyData.canLayAll0, h2, k2], by simp [PyData.depthAll]; omega⟩
end
theorem toPs_of {ds : List Dv} {p : PyData} (h : toP (.tup ds) = some p) : ∃ ps, toPs ds = some ps ∧ p = .tuple ps := by
  simp only [toP] at h
  split at h
  · rename_i ps e; cases h; exact ⟨ps, e, rfl⟩
  · cases h
theorem toPs_of' {ds : List Dv} {p : PyData} (h : toP (.lst ds) = some p) : ∃ ps, toPs ds = some ps ∧ p = .list ps := by
  simp only [toP] at h
  split at h
  · rename_i ps e; cases h; exact ⟨ps, e, rfl⟩
  · cases h
theorem toPs_cons {x : Dv} {xs : List Dv} {ps : List PyData} (h : toPs (x :: xs) = some ps) : ∃ p qs, toP x = some p ∧ toPs xs = some qs ∧ ps = p :: qs := by
  simp only [toPs] at h
  split at h
  · rename_i p qs e1 e2; cases h; exact ⟨p, qs, e1, e2, rfl⟩
  · cases h
mutual
theorem pn_eqv : ∀ (x y : Dv) (p q : PyData) (k l : Nat), Pn k x → Pn l y → toP x = some p → toP y = some q → (PyData.eqv p q = true ↔ x = y)
  | .tup xs, y, p, q, k, l, hx, hy, e1, e2 => by
    cases hx with
    | tup hx =>
      obtain ⟨ps, f1, rfl⟩ := toPs_of e1
      cases hy with
      | tup hy =>
        obtain ⟨qs, f2, rfl⟩ := toPs_of e2
        simp only [PyData.eqv, Dv.tup.injEq]
        exact pn_eqvAll xs _ ps qs _ _ hx hy f1 f2
      | lst hy => obtain ⟨qs, f2, rfl⟩ := toPs_of' e2; simp [PyData.eqv]
      | _ => cases e2; simp [PyData.eqv]
  | .lst xs, y, p, q, k, l, hx, hy, e1, e2 => by
    cases hx with
    | lst hx =>
      obtain ⟨ps, f1, rfl⟩ := toPs_of' e1
      cases hy with
      | lst hy =>
        obtain ⟨qs, f2, rfl⟩ := toPs_of' e2
        simp only [PyData.eqv, Dv.lst.injEq]
        exact pn_eqvAll xs _ ps qs _ _ hx hy f1 f2
      | tup hy => obtain ⟨qs, f2, rfl⟩ := toPs_of e2; simp [PyData.eqv]
      | _ => cases e2; simp [PyData.eqv]
  | .non, y, p, q, k, l, hx, hy, e1, e2 => by
    cases e1
    cases hy with
    | tup hy => obtain ⟨qs, f2, rfl⟩ := toPs_of e2; simp [PyData.eqv]
    | lst hy => obtain ⟨qs, f2, rfl⟩ := toPs_of' e2; simp [PyData.eqv]
    | _ => cases e2; simp [PyData.eqv]
  | .int i, y, p, q, k, l, hx, hy, e1, e2 => by
    cases e1
    cases hy with
    | tup hy => obtain ⟨qs, f2, rfl⟩ := toPs_of e2; simp [PyData.eqv]
    | lst hy => obtain ⟨qs, f2, rfl⟩ := toPs_of' e2; simp [PyData.eqv]
    | _ => cases e2; simp [PyData.eqv]
  | .str x, y, p, q, k, l, hx, hy, e1, e2 => by
    cases e1
    cases hy with
    | tup hy => obtain ⟨qs, f2, rfl⟩ := toPs_of e2; simp [PyData.eqv]
    | lst hy => obtain ⟨qs, f2, rfl⟩ := toPs_of' e2; simp [PyData.eqv]
    | _ => cases e2; simp [PyData.eqv]
  | .bl _, _, _, _, _, _, h, _, _, _ => nomatch h
  | .scr _, _, _, _, _, _, h, _, _, _ => nomatch h
  | .ref _, _, _, _, _, _, h, _, _, _ => nomatch h
  | .cls _, _, _, _, _, _, h, _, _, _ => nomatch h
  | .ty _, _, _, _, _, _, h, _, _, _ => nomatch h
theorem pn_eqvAll : ∀ (xs ys : List Dv) (ps qs : List PyData) (k l : Nat), (∀ d ∈ xs, Pn k d) → (∀ d ∈ ys, Pn l d) → toPs xs = some ps → toPs ys = some qs → (PyData.eqvAll ps qs = true ↔ xs = ys)
  | [], [], _, _, _, _, _, _, e1, e2 => by cases e1; cases e2; simp [PyData.eqvAll]
  | [], y :: ys, _, _, _, _, _, _, e1, e2 => by cases e1; obtain ⟨p, qs, _, _, rfl⟩ := toPs_cons e2; simp [PyData.eqvAll]
  | x :: xs, [], _, _, _, _, _, _, e1, e2 => by cases e2; obtain ⟨p, qs, _, _, rfl⟩ := toPs_cons e1; simp [PyData.eqvAll]
  | x :: xs, y :: ys, _, _, k, l, hx, hy, e1, e2 => by
    obtain ⟨p, ps, a1, a2, rfl⟩ := toPs_cons e1
    obtain ⟨q, qs, b1, b2, rfl⟩ := toPs_cons e2
    simp only [PyData.eqvAll, Bool.and_eq_true, List.cons.injEq]
    exact and_congr (pn_eqv x y p q k l (hx x (List.mem_cons_self ..)) (hy y (List.mem_cons_self ..)) a1 b1) (pn_eqvAll xs ys ps qs k l (fun d hd => hx d (List.mem_cons_of_mem _ hd)) (fun d hd => hy d (List.mem_cons_of_mem _ hd)) a2 b2)
end
open Classical in
theorem eqD_pn {x y : Dv} {k l : Nat} (hx : Pn k x) (hy : Pn l y) (hk : k ≤ 64) (hl : l ≤ 64) : eqD x y = some (decide (x = y)) := by
  obtain ⟨p, h1, h2, h3⟩ := pn_toP x k hx
  obtain ⟨q, k1, k2, k3⟩ := pn_toP y l hy
  unfold eqD
  rw [h1, k1]
  have s1 : SeqAt.shaped p = true := by show (p.canLay0 && decide (p.depth ≤ 64)) = true; rw [h2, decide_eq_true (Nat.le_trans h3 hk)]; rfl
  have s2 : SeqAt.shaped q = true := by show (q.canLay0 && decide (q.depth ≤ 64)) = true; rw [k2, decide_eq_true (Nat.le_trans k3 hl)]; rfl
  simp only [s1, s2, Bool.and_self, if_true]
  have := pn_eqv x y p q k l hx hy h1 k1
  congr 1
  by_cases e : x = y
  · rw [decide_eq_true e]; exact this.mpr e
  · rw [decide_eq_false e]
    cases h : PyData.eqv p q with
    | false => rfl
    | true => exact absurd (this.mp h) e
open Classical in
theorem fEq_pn {x y : Dv} {k l : Nat} (hx : Pn k x) (hy : Pn l y) (hk : k ≤ 64 := by decide) (hl : l ≤ 64 := by decide) : fEq x y = some (.bl (decide (x = y))) := by unfold fEq; rw [eqD_pn hx hy hk hl]; rfl
open Classical in
theorem fNe_pn {x y : Dv} {k l : Nat} (hx : Pn k x) (hy : Pn l y) (hk : k ≤ 64 := by decide) (hl : l ≤ 64 := by decide) : fNe x y = some (.bl (!decide (x = y))) := by unfold fNe; rw [eqD_pn hx hy hk hl]; rfl
theorem Pn.mono {k l : Nat} {x : Dv} (h : Pn k x) (e : k ≤ l) : Pn l x := by
  induction h generalizing l with
  | non => exact .non
  | int => exact .int
  | str h => exact .str h
  | tup h ih => obtain ⟨j, rfl⟩ : ∃ j, l = j + 1 := ⟨l - 1, by omega⟩; exact .tup fun d hd => ih d hd (by omega)
  | lst h ih => obtain ⟨j, rfl⟩ : ∃ j, l = j + 1 := ⟨l - 1, by omega⟩; exact .lst fun d hd => ih d hd (by omega)
/-! by index -/
theorem at_last {α : Type} {a : α} {l : List α} : atI (l ++ [a]) (-1) = some a := by
  have h1 : ¬ (0 : Int) ≤ -1 := by omega
  have h2 : -((l ++ [a]).length : Int) ≤ -1 := by rw [List.length_append]; simp; omega
  unfold atI ixN
  rw [if_neg h1, if_pos h2]
  have e : ((-1 : Int) + ((l ++ [a]).length : Int)).toNat = l.length := by rw [List.length_append]; simp; omega
  simp only [Option.bind_some, e]
  simp
theorem at_nat {α : Type} {l : List α} {i : Nat} (h : i < l.length) : atI l (i : Int) = some l[i] := by
  unfold atI ixN
  rw [if_pos (by omega), if_pos (by omega)]
  simp [h]
theorem at_get {α : Type} {l : List α} {i : Nat} {a : α} (h : l[i]? = some a) : atI l (i : Int) = some a := by
  obtain ⟨h1, h2⟩ := List.getElem?_eq_some_iff.mp h
  rw [at_nat h1, h2]
theorem at0 {α : Type} {a : α} {l : List α} : atI (a :: l) 0 = some a := at_get (i := 0) rfl
theorem at1 {α : Type} {a b : α} {l : List α} : atI (a :: b :: l) 1 = some b := at_get (i := 1) rfl
theorem at2 {α : Type} {a b c : α} {l : List α} : atI (a :: b :: c :: l) 2 = some c := at_get (i := 2) rfl
theorem ixL {xs : List Dv} {i : Int} : fIx (.lst xs) (.int i) = atI xs i := rfl
theorem ixT {xs : List Dv} {i : Int} : fIx (.tup xs) (.int i) = atI xs i := rfl
theorem ixS {ns : List Int} {i : Int} : fIx (.scr ns) (.int i) = (atI ns i).map .int := rfl
theorem cmpI_int {g : Int → Int → Bool} {i j : Int} : fCmpI g (.int i) (.int j) = some (.bl (g i j)) := rfl
theorem add_int {i j : Int} : fAdd (.int i) (.int j) = some (.int (i + j)) := rfl
theorem sub_int {i j : Int} : fSub (.int i) (.int j) = some (.int (i - j)) := rfl
theorem int_int {i : Int} : fInt [.int i] = some (.int i) := rfl
theorem neg_int {i : Int} : fNeg (.int i) = some (.int (-i)) := rfl
theorem guard_t {c : Prop} [Decidable c] {x : Dv} (h : c) : guard' (decide c) x = some x := by rw [decide_eq_true h]; rfl
theorem mod_int {i j : Int} (h : 0 < j) : fMod (.int i) (.int j) = some (.int (i % j)) := guard_t h
theorem div_int {i j : Int} (h : 0 < j) (h2 : j.natAbs.log2 < 9000) : fDiv (.int i) (.int j) = some (.int (i / j)) := guard_t ⟨h, h2⟩
theorem mul_int {i j : Int} (h : i.natAbs.log2 + j.natAbs.log2 < 1000000) : fMul (.int i) (.int j) = some (.int (i * j)) := guard_t h
theorem pow_int {i : Int} {n : Nat} (h : (i.natAbs.log2 + 1) * n ≤ 134217728) : fPow (.int i) (.int n) = some (.int (i ^ n)) := by
  have h2 : (0 : Int) ≤ (n : Int) ∧ ((i.natAbs.log2 + 1 : Nat) : Int) * (n : Int) ≤ 134217728 := ⟨Int.natCast_nonneg n, by rw [← Int.natCast_mul]; exact Int.ofNat_le.mpr h⟩
  exact guard_t h2
theorem ix30 {n : Nat} : ixN (n + 1) 0 = some 0 := by unfold ixN; rw [if_pos (by omega), if_pos (by omega)]; rfl
theorem ix31 : ixN 3 1 = some 1 := rfl
theorem ix32 : ixN 3 2 = some 2 := rfl
theorem is_non {b : Bool} {x : Dv} : fIs b x .non = some (.bl (xor b (isNon x))) := by cases x <;> rfl
theorem lap_log {n k : Nat} (h : n < 2 ^ k) (hk : 0 < k) : n.log2 < k := by
  by_cases h0 : n = 0
  · subst h0; simpa using hk
  · exact (Nat.log2_lt h0).mpr h
theorem szOk_le {n : Nat} (h : n ≤ 16777216) : szOk n = true := decide_eq_true h
theorem p59 : fPow (.int 10) (.int 59) = some (.int (10 ^ 59)) := pow_int (i := 10) (n := 59) (by decide)
theorem p30 : fPow (.int 10) (.int 30) = some (.int (10 ^ 30)) := pow_int (i := 10) (n := 30) (by decide)
theorem p6 : fPow (.int 10) (.int 6) = some (.int (10 ^ 6)) := pow_int (i := 10) (n := 6) (by decide)
theorem p12 : fPow (.int 10) (.int 12) = some (.int (10 ^ 12)) := pow_int (i := 10) (n := 12) (by decide)
theorem p18 : fPow (.int 10) (.int 18) = some (.int (10 ^ 18)) := pow_int (i := 10) (n := 18) (by decide)
theorem two_log : (2 : Int).natAbs.log2 < 2 := by decide
theorem mul2 {i : Int} (h : i.natAbs.log2 < 100000) : fMul (.int 2) (.int i) = some (.int (2 * i)) := mul_int (Nat.lt_trans (Nat.add_lt_add two_log h) (by decide))
theorem lay_str {x : Str} : PyData.canLay0 (.str x) = true ↔ ∀ c ∈ x.cps.toList, c < 0x110000 := by
  rw [show PyData.canLay0 (.str x) = x.cps.all (fun c => decide (c < 0x110000)) by simp only [PyData.canLay0]; rfl]
  rw [← Array.all_toList, List.all_eq_true]
  simp
theorem lay_nil : PyData.canLay0 (.str "") = true := lay_str.mpr fun c h => by
  have e : (("" : Str)).cps.toList = [] := by decide +kernel
  rw [e] at h
  cases h
theorem lay_app {x y : Str} (hx : PyData.canLay0 (.str x) = true) (hy : PyData.canLay0 (.str y) = true) : PyData.canLay0 (.str (x ++ y)) = true := lay_str.mpr fun c h => by
  have e : (x ++ y).cps.toList = x.cps.toList ++ y.cps.toList := by show (x.cps ++ y.cps).toList = _; simp
  rw [e, List.mem_append] at h
  exact h.elim (lay_str.mp hx c) (lay_str.mp hy c)
theorem lay_one {c : Nat} (h : c < 0x110000) : PyData.canLay0 (.str ⟨#[c]⟩) = true := lay_str.mpr fun d hd => by
  have : d = c := by simpa using hd
  omega
theorem add_str {x y : Str} (h : x.length + y.length ≤ 16777216) : fAdd (.str x) (.str y) = some (.str (x ++ y)) := guard_t h
theorem len_app {x y : Str} : (x ++ y).length = x.length + y.length := by show (x.cps ++ y.cps).size = _; rw [Array.size_append]; rfl
end DD

/-! E4: plain reasoning: things to walk, comprehensions, sorting, own objects, several names at once -/
namespace DD
open PySem L2
open PyProof.Rows hiding St
section
variable {E : Ex → Ls → Prop} {loc : List Sl} {m : List Ob} {t : List (List Dv)} {s : Ls}
noncomputable def srcOf (x : Dv) (s : Ls) : R Src := match x with
  | .lst ds => .ok ⟨ds, always⟩ s
  | .tup ds => .ok ⟨ds, always⟩ s
  | .str x => .ok ⟨x.cps.toList.map fun c => .str ⟨#[c]⟩, always⟩ s
  | .scr ns => .ok ⟨ns.map .int, always⟩ s
  | .ref n => (match s.mem[n]? with
    | some (.lst ds) => .ok ⟨ds, stands n ds⟩ s
    | _ => .stuck)
  | _ => .stuck
theorem ok_src {d : Ls → R Dv} {Q : Src → Ls → Prop} : Ok E (dSrcA d s) Q ↔ Ok E (d s) fun x s => Ok E (srcOf x s) Q := by unfold dSrcA; rw [ok_bind]; exact Iff.rfl
theorem src_lst {ds : List Dv} {Q : Src → Ls → Prop} : Ok E (srcOf (.lst ds) s) Q ↔ Q ⟨ds, always⟩ s := ok_ok
theorem src_tup {ds : List Dv} {Q : Src → Ls → Prop} : Ok E (srcOf (.tup ds) s) Q ↔ Q ⟨ds, always⟩ s := ok_ok
theorem src_str {x : Str} {Q : Src → Ls → Prop} : Ok E (srcOf (.str x) s) Q ↔ Q ⟨x.cps.toList.map fun c => .str ⟨#[c]⟩, always⟩ s := ok_ok
theorem src_scr {ns : List Int} {Q : Src → Ls → Prop} : Ok E (srcOf (.scr ns) s) Q ↔ Q ⟨ns.map .int, always⟩ s := ok_ok
theorem ok_prt {d : Ls → R Dv} {Q : Option Int → Ls → Prop} : Ok E (dPart d s) Q ↔ Ok E (d s) fun x s => ∃ i, x = .int i ∧ Q (some i) s := by
  unfold dPart; rw [ok_bind]
  cases d s with
  | ok x s1 =>
    simp only [ok_ok]
    cases x <;> simp
  | _ => simp
theorem ok_lcN {src : Ls → R Src} {vs : List Nat} {g : Dv → Ls → Option Ls} {tt : Ls → R Bool} {el : Ls → R Dv} {Q : Nat → Ls → Prop} : Ok E (dLcN src vs g tt el s) Q ↔ Ok E (src s) fun sc s => noOwn s.loc vs = true ∧ Ok NoL (dLcGo sc.chk vs g tt el s.tmp.length sc.items { loc := wipeL s.loc vs, mem := s.mem, tmp := s.tmp ++ [[]] }) fun _ s' => Q s.tmp.length { s' with loc := DD.unwipe s.loc s'.loc vs } := by
  unfold dLcN; rw [ok_bind]
  cases src s with
  | ok sc s1 =>
    simp only [ok_ok]
    by_cases h : noOwn s1.loc vs = true
    · rw [if_pos h]
      cases dLcGo sc.chk vs g tt el s1.tmp.length sc.items { loc := wipeL s1.loc vs, mem := s1.mem, tmp := s1.tmp ++ [[]] } with
      | ok u s' => simp [h]
      | _ => simp [NoL]
    · rw [if_neg h]; simp [h]
  | _ => simp
/-- a comprehension by its rest -/
theorem lc_rule {chk : List Ob → Bool} {vs : List Nat} {g : Dv → Ls → Option Ls} {tt : Ls → R Bool} {el : Ls → R Dv} {n : Nat} {Q : Unit → Ls → Prop} (I : List Dv → Ls → Prop) (hc : ∀ l s, I l s → chk s.mem = true) (h0 : ∀ s, I [] s → Q () s)
    (h1 : ∀ d l s, I (d :: l) s → To (g d s) fun s1 => Ok E (tt s1) fun b s2 => if b = true then Ok E (el s2) fun y s3 => ∃ acc, s3.tmp[n]? = some acc ∧ acc.length < 16777216 ∧ I l { s3 with loc := wipeL s3.loc vs, tmp := s3.tmp.set n (acc ++ [y]) } else I l { s2 with loc := wipeL s2.loc vs }) : ∀ (l : List Dv) (s : Ls), I l s → Ok E (dLcGo chk vs g tt el n l s) Q
  | [], s, h => by
    unfold dLcGo
    rw [if_pos (hc _ _ h)]
    exact .ok (h0 s h)
  | d :: l, s, h => by
    unfold dLcGo
    rw [if_pos (hc _ _ h)]
    obtain ⟨s1, eg, q'⟩ := h1 d l s h
    · simp only [eg]
      rw [ok_bind]
      refine q'.mono fun b s2 q2 => ?_
      by_cases hb : b = true
      · rw [if_pos hb] at q2 ⊢
        rw [ok_bind]
        refine q2.mono fun y s3 ⟨acc, e1, e2, e3⟩ => ?_
        simp only [e1]
        rw [if_pos e2]
        exact lc_rule I hc h0 h1 l _ e3
      · rw [if_neg hb] at q2 ⊢
        exact lc_rule I hc h0 h1 l _ q2
/-- a comprehension whose parts change nothing -/
theorem lc_pure {vs : List Nat} {g : Dv → Ls → Option Ls} {tt : Ls → R Bool} {el : Ls → R Dv} {L : List Sl} {T : List (List Dv)} {Q : Unit → Ls → Prop} (f : Dv → List Dv) : ∀ (l : List Dv) (a : List Dv), (∀ d ∈ l, ∀ acc : List Dv, To (g d ⟨L, m, T ++ [acc]⟩) fun s1 => Ok E (tt s1) fun b s2 => if b = true then Ok E (el s2) fun y s3 => f d = [y] ∧ wipeL s3.loc vs = L ∧ s3.mem = m ∧ s3.tmp = T ++ [acc] else f d = [] ∧ wipeL s2.loc vs = L ∧ s2.mem = m ∧ s2.tmp = T ++ [acc]) → a.length + l.length ≤ 16777216 → Q () ⟨L, m, T ++ [a ++ l.flatMap f]⟩ → Ok E (dLcGo always vs g tt el T.length l ⟨L, m, T ++ [a]⟩) Q := by
  intro l
  induction l with
  | nil =>
    intro a _ _ q
    unfold dLcGo
    rw [if_pos (show always m = true from rfl)]
    simpa using q
  | cons d l ih =>
    intro a h hl q
    unfold dLcGo
    rw [if_pos (show always m = true from rfl)]
    have h' := fun d hd => h d (List.mem_cons_of_mem _ hd)
    obtain ⟨s1, eg, q'⟩ := h d (List.mem_cons_self ..) a
    · simp only [eg]
      rw [ok_bind]
      refine q'.mono fun b s2 q2 => ?_
      rw [List.length_cons] at hl
      by_cases hb : b = true
      · rw [if_pos hb] at q2 ⊢
        rw [ok_bind]
        refine q2.mono fun y s3 ⟨e0, e1, e2, e3⟩ => ?_
        obtain ⟨l3, m3, t3⟩ := s3
        simp only at e1 e2 e3
        subst e2; subst e3
        have e4 : (T ++ [a])[T.length]? = some a := by simp
        simp only [e4]
        rw [if_pos (by omega), e1]
        have e5 : (T ++ [a]).set T.length (a ++ [y]) = T ++ [a ++ [y]] := by simp
        rw [e5]
        refine ih (a ++ [y]) h' (by simp; omega) ?_
        rw [List.flatMap_cons, e0] at q
        simpa using q
      · rw [if_neg hb] at q2 ⊢
        obtain ⟨e0, e1, e2, e3⟩ := q2
        obtain ⟨l3, m3, t3⟩ := s2
        simp only at e1 e2 e3
        subst e2; subst e3
        show Ok _ (dLcGo always vs g tt el T.length l ⟨wipeL l3 vs, m3, T ++ [a]⟩) Q
        rw [e1]
        refine ih a h' (by omega) ?_
        rw [List.flatMap_cons, e0] at q
        simpa using q
/-! sorting -/
theorem ok_sortSet {d : Ls → R Dv} {Q : Nat → Ls → Prop} : Ok E (dSortSet d s) Q ↔ Ok E (d s) fun x s => ∃ ds, x = .lst ds ∧ ∃ is, toIs ds = some is ∧ is.length + 1 < 4096 ∧ Q s.tmp.length (s.push ((sortU is).map .int)) := by
  unfold dSortSet; rw [ok_bind]
  cases d s with
  | ok x s1 =>
    simp only [ok_ok]
    cases x with
    | lst ds =>
      simp only
      cases h : toIs ds with
      | none => simp [h]
      | some is =>
        simp only [ok_ite, ok_stuck]
        constructor
        · intro q
          split at q
          · rename_i h2; exact ⟨ds, rfl, is, h, h2, ok_ok.mp q⟩
          · exact q.elim
        · rintro ⟨_, e, is', e2, h2, q⟩
          cases e
          rw [h] at e2; cases e2
          rw [if_pos h2]; exact ok_ok.mpr q
    | _ => simp
  | _ => simp
theorem ok_sortK0 {n : Nat} {C : Option Str} {x q : Str} {d : Ls → R (List Dv)} {Q : Nat → Ls → Prop} : Ok E (dSortK0 n C x q d s) Q ↔ Ok E (d s) fun xs s => ∃ y, xs = [y] ∧ ∃ ds, seqK (lookDv s.mem y) = some ds ∧ ∃ bs, keyed ds = some bs ∧ isTab s.mem[n]? C x q = true ∧ Q s.tmp.length (s.push (sortK0 bs)) := by
  unfold dSortK0; rw [ok_bind]
  cases d s with
  | ok xs s1 =>
    simp only [ok_ok]
    split
    · rename_i y
      simp only [List.cons.injEq, and_true, exists_eq_left']
      cases hy : seqK (lookDv s1.mem y) with
      | some ds =>
        simp only [Option.some.injEq, exists_eq_left']
        cases h : keyed ds with
        | none => simp [h]
        | some bs =>
          simp only [ok_ite, ok_stuck, Option.some.injEq, exists_eq_left']
          constructor
          · intro p
            split at p
            · rename_i h2; exact ⟨h2, ok_ok.mp p⟩
            · exact p.elim
          · rintro ⟨h2, p⟩
            rw [if_pos h2]; exact ok_ok.mpr p
      | _ => simp [ok_stuck]
    · rename_i h
      simp only [ok_stuck, false_iff]
      rintro ⟨ds, e, _⟩
      exact h ds e
  | _ => simp
/-! several names at once -/
theorem to_Ng {i n : Nat} {N : Ls → Prop} : To (stN i n s) N ↔ ∃ ds, s.tmp[n]? = some ds ∧ (i < s.loc.length ∧ n + 1 = s.tmp.length) ∧ N { s with loc := s.loc.set i (.own ds), tmp := s.tmp.dropLast } := by
  unfold stN
  cases h : s.tmp[n]? with
  | none => simp [h, To]
  | some ds =>
    simp only [Option.some.injEq, exists_eq_left']
    constructor
    · intro q
      split at q
      · rename_i h2; exact ⟨h2, to_some.mp q⟩
      · exact (to_none.mp q).elim
    · rintro ⟨h2, q⟩
      rw [if_pos h2]; exact to_some.mpr q
theorem go_par {is : List Nat} {da : Ls → R (List Itm)} {D : Po} : Go (dPar is da s) D ↔ Ok D.er (da s) fun its s' => incr 0 its = true ∧ To (stIs s.tmp.length is its s') D.nx := by
  unfold dPar; rw [go_fl]
  cases da s with
  | ok its s1 =>
    simp only [ok_ok]
    by_cases h : incr 0 its = true
    · rw [if_pos h]
      cases stIs s.tmp.length is its s1 <;> simp [h, to_some, to_none]
    · rw [if_neg h]; simp [h]
  | _ => simp
theorem ok_dmNil {Q : List Itm → Ls → Prop} : Ok E (dmNil s) Q ↔ Q [] s := ok_ok
theorem ok_dmV {d : Ls → R Dv} {da : Ls → R (List Itm)} {Q : List Itm → Ls → Prop} : Ok E (dmV d da s) Q ↔ Ok E (d s) fun x s => Ok E (da s) fun xs s => Q (.dv x :: xs) s := by unfold dmV; simp only [ok_bind, ok_ok]
theorem ok_dmN {d : Ls → R Nat} {da : Ls → R (List Itm)} {Q : List Itm → Ls → Prop} : Ok E (dmN d da s) Q ↔ Ok E (d s) fun x s => Ok E (da s) fun xs s => Q (.nl x :: xs) s := by unfold dmN; simp only [ok_bind, ok_ok]
theorem to_stIs0 {lo : Nat} {N : Ls → Prop} : To (stIs lo [] [] s) N ↔ N s := to_some
theorem to_stIs {lo i : Nat} {is : List Nat} {x : Itm} {xs : List Itm} {N : Ls → Prop} : To (stIs lo (i :: is) (x :: xs) s) N ↔ To (stIs lo is xs s) fun s => To (stI lo i x s) N := by
  show To ((stIs lo is xs s).bind (stI lo i x)) N ↔ _
  exact to_bind
theorem to_stIv {lo i : Nat} {x : Dv} {N : Ls → Prop} : To (stI lo i (.dv x) s) N ↔ To (stV i x s) N := Iff.rfl
theorem to_stIn {lo i n : Nat} {N : Ls → Prop} : To (stI lo i (.nl n) s) N ↔ lo ≤ n ∧ To (stN i n s) N := by
  show To (if lo ≤ n then stN i n s else none) N ↔ _
  by_cases h : lo ≤ n
  · rw [if_pos h]; simp [h]
  · rw [if_neg h]; simp [h, To]
/-! and, or as values; chains -/
theorem ok_andV {d r : Ls → R Dv} {Q : Dv → Ls → Prop} : Ok E (dAndV d r s) Q ↔ Ok E (d s) fun x s => ∃ b, fTru (lookDv s.mem x) = some b ∧ if b = true then Ok E (r s) Q else Q x s := by
  unfold dAndV; rw [ok_bind]
  cases d s with
  | ok x s1 =>
    simp only [ok_ok]
    cases fTru (lookDv s1.mem x) with
    | none => simp
    | some b => cases b <;> simp
  | _ => simp
theorem ok_orV {d r : Ls → R Dv} {Q : Dv → Ls → Prop} : Ok E (dOrV d r s) Q ↔ Ok E (d s) fun x s => ∃ b, fTru (lookDv s.mem x) = some b ∧ if b = true then Q x s else Ok E (r s) Q := by
  unfold dOrV; rw [ok_bind]
  cases d s with
  | ok x s1 =>
    simp only [ok_ok]
    cases fTru (lookDv s1.mem x) with
    | none => simp
    | some b => cases b <;> simp
  | _ => simp
theorem tru_bl {b : Bool} : fTru (.bl b) = some b := rfl
theorem tru_lst {ds : List Dv} : fTru (.lst ds) = some (!ds.isEmpty) := rfl
theorem ok_chain {f g : Dv → Dv → Option Dv} {da db dc : Ls → R Rd} {Q : Dv → Ls → Prop} : Ok E (dChain f g da db dc s) Q ↔ Ok E (da s) fun x s => Ok E (db s) fun y s => ∃ b, ((x.look s).bind fun a => (y.look s).bind fun b => f a b) = some (.bl b) ∧ if b = true then Ok E (dc s) fun z s => ∃ w, ((y.look s).bind fun b => (z.look s).bind fun c => g b c) = some w ∧ Q w s else Q (.bl false) s := by
  unfold dChain; simp only [ok_bind]
  cases da s with
  | ok x s1 =>
    simp only [ok_ok]
    cases db s1 with
    | ok y s2 =>
      simp only [ok_ok]
      cases h : (x.look s2).bind fun a => (y.look s2).bind fun b => f a b with
      | none => simp
      | some z => cases z with
        | bl b => cases b <;> simp
        | _ => simp
    | _ => simp
  | _ => simp
/-! own objects -/
theorem insC_of {n : Nat} {C : Str} {fs : List (Str × Dv)} (h : m[n]? = some (.ins C fs)) : insC m[n]? = some C := by rw [h]; rfl
theorem ok_lenA {T : Str → Option Den} {C : Str} {f : Den} {n : Nat} {fs : List (Str × Dv)} {da : Ls → R (List Rd)} {Q : Dv → Ls → Prop} (hT : T C = some f) (h : Ok E (da s) fun rs s => lookAll rs s = some [.ref n] ∧ s.mem[n]? = some (.ins C fs) ∧ Ca (f [.ref n] s.mem) fun y m => ∃ i : Int, y = .int i ∧ (0 ≤ i ∧ i < 2 ^ 63) ∧ Q (.int i) { s with mem := m }) : Ok E (dLenA T da s) Q := by
  unfold dLenA; rw [ok_bind]
  refine h.mono fun rs s ⟨h1, h2, h3⟩ => ?_
  simp only [h1, insC_of h2, Option.bind_some, hT]
  revert h3
  cases f [.ref n] s.mem with
  | ok y m =>
    intro h
    obtain ⟨i, rfl, hi, q⟩ := ca_ok.mp h
    simp only
    rw [if_pos hi]
    exact .ok q
  | err x m => exact fun q => (ca_err.mp q).elim
  | stuck => exact fun q => (ca_stuck.mp q).elim
theorem ok_listA {TI : Str → Option Str} {TL : Str → Option Den} {C F : Str} {f : Den} {n : Nat} {fs : List (Str × Dv)} {ds : List Dv} {da : Ls → R (List Rd)} {Q : Nat → Ls → Prop} (hI : TI C = some F) (hL : TL C = some f) (h : Ok E (da s) fun rs s => lookAll rs s = some [.ref n] ∧ s.mem[n]? = some (.ins C fs) ∧ fs.lookup F = some (.lst ds) ∧ ds.length ≤ 16777216 ∧ f [.ref n] s.mem = .ok (.int ds.length) s.mem ∧ Q s.tmp.length (s.push ds)) : Ok E (dListA TI TL da s) Q := by
  unfold dListA; rw [ok_bind]
  refine h.mono fun rs s ⟨h1, h2, h3, h4, h5, q⟩ => ?_
  have e : ownList TI s.mem n = some ds := by simp only [ownList, h2, hI, Option.bind_some, h3]
  simp only [h1, e]
  rw [if_pos ⟨h4, f, by rw [insC_of h2]; exact hL, h5⟩]
  exact .ok q
theorem ok_eqA {T : Str → Option Den} {C : Str} {f : Den} {n k : Nat} {fs gs : List (Str × Dv)} {da db : Ls → R Rd} {Q : Dv → Ls → Prop} (hT : T C = some f) (h : Ok E (da s) fun x s => Ok E (db s) fun y s => x.look s = some (.ref n) ∧ y.look s = some (.ref k) ∧ s.mem[n]? = some (.ins C fs) ∧ s.mem[k]? = some (.ins C gs) ∧ Ca (f [.ref n, .ref k] s.mem) fun y m => ∃ b, y = .bl b ∧ Q (.bl b) { s with mem := m }) : Ok E (dEqA T da db s) Q := by
  unfold dEqA; rw [ok_bind]
  refine h.mono fun x s h => ?_
  rw [ok_bind]
  refine h.mono fun y s ⟨h1, h2, h3, h4, h5⟩ => ?_
  simp only [h1, h2, insC_of h3, insC_of h4, Option.bind_some, hT, if_true]
  revert h5
  cases f [.ref n, .ref k] s.mem with
  | ok y m =>
    intro h
    obtain ⟨i, rfl, q⟩ := ca_ok.mp h
    exact .ok q
  | err x m => exact fun q => (ca_err.mp q).elim
  | stuck => exact fun q => (ca_stuck.mp q).elim
theorem ok_ixA {T : Str → Option Den} {C : Str} {f : Den} {n : Nat} {fs : List (Str × Dv)} {da : Ls → R Rd} {db : Ls → R Dv} {Q : Dv → Ls → Prop} (hT : T C = some f) (h : Ok E (da s) fun x s => Ok E (db s) fun y s => x.look s = some (.ref n) ∧ s.mem[n]? = some (.ins C fs) ∧ Ca (f [.ref n, y] s.mem) fun z m => Q z { s with mem := m }) : Ok E (dIxA T da db s) Q := by
  unfold dIxA; rw [ok_bind]
  refine h.mono fun x s h => ?_
  rw [ok_bind]
  refine h.mono fun y s ⟨h1, h3, h5⟩ => ?_
  simp only [h1, insC_of h3, Option.bind_some, hT]
  revert h5
  cases f [.ref n, y] s.mem with
  | ok y m => exact fun q => .ok (ca_ok.mp q)
  | err x m => exact fun q => (ca_err.mp q).elim
  | stuck => exact fun q => (ca_stuck.mp q).elim
theorem go_setIxA {T : Str → Option Den} {C : Str} {f : Den} {n : Nat} {fs : List (Str × Dv)} {d di : Ls → R Dv} {dr : Ls → R Rd} {D : Po} (hT : T C = some f) (h : Ok D.er (d s) fun x s => Ok D.er (dr s) fun r s => Ok D.er (di s) fun i s => r.list s = none ∧ r.look s = some (.ref n) ∧ s.mem[n]? = some (.ins C fs) ∧ Ca (f [.ref n, i, x] s.mem) fun _ m => D.nx { s with mem := m }) : Go (dSetIxA T d dr di s) D := by
  unfold dSetIxA; rw [go_fl]
  refine h.mono fun x s h => ?_
  rw [go_fl]
  refine h.mono fun r s h => ?_
  rw [go_fl]
  refine h.mono fun i s ⟨h1, h2, h3, h5⟩ => ?_
  have e : refOf r s = some n := by simp only [refOf, h2]
  simp only [h1, e, insC_of h3, Option.bind_some, hT]
  revert h5
  cases f [.ref n, i, x] s.mem with
  | ok y m => exact fun q => .nx (ca_ok.mp q)
  | err x m => exact fun q => (ca_err.mp q).elim
  | stuck => exact fun q => (ca_stuck.mp q).elim
end
/-! wiping -/
theorem wipe0 {l : List Sl} : wipeL l [] = l := rfl
theorem wipe1 {l : List Sl} {v : Nat} {vs : List Nat} : wipeL l (v :: vs) = (wipeL l vs).set v .no := rfl
theorem unwipe0 {l0 l : List Sl} : DD.unwipe l0 l [] = l := rfl
theorem unwipe1 {l0 l : List Sl} {v : Nat} {vs : List Nat} : DD.unwipe l0 l (v :: vs) = (DD.unwipe l0 l vs).set v (l0.getD v .no) := rfl
def unown : Sl → Bool
  | .own _ => false
  | _ => true
theorem noOwn0 {l : List Sl} : noOwn l [] = true := rfl
theorem noOwn1 {l : List Sl} {v : Nat} {vs : List Nat} : noOwn l (v :: vs) = (unown (l.getD v .no) && noOwn l vs) := rfl
theorem unown_no : unown .no = true := rfl
theorem unown_val {x : Dv} : unown (.val x) = true := rfl
theorem ok_yes {E : Ex → Ls → Prop} {s : Ls} {Q : Bool → Ls → Prop} : Ok E (dYes s) Q ↔ Q true s := ok_ok
open Classical in
theorem eq_int {i j : Int} : fEq (.int i) (.int j) = some (.bl (decide (i = j))) := by
  rw [fEq_pn (k := 0) (l := 0) Pn.int Pn.int]
  congr 2
  exact decide_eq_decide.mpr ⟨Dv.int.inj, fun e => by rw [e]⟩
open Classical in
theorem ne_int {i j : Int} : fNe (.int i) (.int j) = some (.bl (!decide (i = j))) := by
  rw [fNe_pn (k := 0) (l := 0) Pn.int Pn.int]
  congr 3
  exact decide_eq_decide.mpr ⟨Dv.int.inj, fun e => by rw [e]⟩
theorem append_ok {ds : List Dv} {y : Dv} (h : ds.length < 16777216) : fAppend ds [y] = some (ds ++ [y], .non) := if_pos h
theorem nn_non : isNon .non = true := rfl
theorem nn_int {i : Int} : isNon (.int i) = false := rfl
theorem nn_str {i : Str} : isNon (.str i) = false := rfl
theorem nn_bl {i : Bool} : isNon (.bl i) = false := rfl
theorem nn_tup {i : List Dv} : isNon (.tup i) = false := rfl
theorem nn_lst {i : List Dv} : isNon (.lst i) = false := rfl
theorem nn_ref {i : Nat} : isNon (.ref i) = false := rfl
theorem x_tt : xor true true = false := rfl
theorem x_tf : xor true false = true := rfl
theorem x_ft : xor false true = true := rfl
theorem x_ff : xor false false = false := rfl
/-! while -/
theorem dWhile_eq {c : Ls → R Bool} {b : Ls → Fl} {n : Nat} {s : Ls} (h : dWhileN c b n s ≠ .stuck) : dWhile c b s = dWhileN c b n s := by
  unfold dWhile
  have hx : ∃ n, dWhileN c b n s ≠ .stuck := ⟨n, h⟩
  rw [dif_pos hx]
  have h2 := Classical.choose_spec hx
  rcases Nat.le_total n (Classical.choose hx) with q | q
  · exact dWhileN_more c b _ _ s h q
  · exact (dWhileN_more c b _ _ s h2 q).symm
theorem whileN_rule {c : Ls → R Bool} {b : Ls → Fl} {D : Po} (I : Nat → Ls → Prop) (h1 : ∀ n s, I n s → Ok D.er (c s) fun x s1 => if x = true then Go (b s1) { nx := fun s2 => ∃ k < n, I k s2, rt := D.rt, ct := fun s2 => ∃ k < n, I k s2, bk := D.nx, er := D.er } else D.nx s1) : ∀ n s, I n s → Go (dWhileN c b (n + 1) s) D := by
  intro n
  induction n using Nat.strongRecOn with
  | _ n ih =>
    intro s h
    unfold dWhileN
    rw [go_fl]
    refine (h1 n s h).mono fun x s1 q => ?_
    by_cases hx : x = true
    · rw [if_pos hx] at q ⊢
      have more : ∀ s2, (∃ k < n, I k s2) → Go (dWhileN c b n s2) D := fun s2 ⟨k, hk, hi⟩ => by
        have h2 := ih k hk s2 hi
        have h3 : dWhileN c b (k + 1) s2 ≠ .stuck := fun e => by rw [e] at h2; exact go_stuck.mp h2
        rw [dWhileN_more c b (k + 1) n s2 h3 hk]
        exact h2
      revert q
      cases b s1 <;> intro q <;> simp at q ⊢ <;> first | exact more _ q | exact q
    · rw [if_neg hx] at q ⊢
      exact .nx q
/-- a while loop by a measure -/
theorem while_rule {c : Ls → R Bool} {b : Ls → Fl} {D : Po} (I : Nat → Ls → Prop) (h1 : ∀ n s, I n s → Ok D.er (c s) fun x s1 => if x = true then Go (b s1) { nx := fun s2 => ∃ k < n, I k s2, rt := D.rt, ct := fun s2 => ∃ k < n, I k s2, bk := D.nx, er := D.er } else D.nx s1) (n : Nat) (s : Ls) (h : I n s) : Go (dWhile c b s) D := by
  have h2 := whileN_rule I h1 n s h
  rw [dWhile_eq (n := n + 1) fun e => by rw [e] at h2; exact go_stuck.mp h2]
  exact h2
end DD

/-! E5: plain reasoning: classes made with a star, properties, own in, lists that may stand in the store -/
namespace DD
open PySem L2
open PyProof.Rows hiding St
section
variable {E : Ex → Ls → Prop} {loc : List Sl} {m : List Ob} {t : List (List Dv)} {s : Ls}
theorem seqD_lst {ds : List Dv} : seqD (.lst ds) = some ds := rfl
theorem seqD_tup {ds : List Dv} : seqD (.tup ds) = some ds := rfl
theorem go_never {D : Po} : Go (dNever s) D ↔ False := go_stuck
theorem ok_mkS {Cn : Str} {f : Den} {d dk : Ls → R Dv} {Q : Dv → Ls → Prop} : Ok E (dMkS Cn f d dk s) Q ↔ Ok E (d s) fun x s => Ok E (dk s) fun y s => ∃ ds, seqD (lookDv s.mem x) = some ds ∧ ds.length ≤ 16777216 ∧ Ca (f [.ref s.mem.length, y, .tup ds] (s.mem ++ [.ins Cn []])) fun z m => z = .non ∧ Q (.ref s.mem.length) { s with mem := m } := by
  unfold dMkS; simp only [ok_bind]
  cases d s with
  | ok x s1 =>
    simp only [ok_ok]
    cases dk s1 with
    | ok y s2 =>
      simp only [ok_ok]
      cases h : seqD (lookDv s2.mem x) with
      | none => simp
      | some ds =>
        simp only [Option.some.injEq, exists_eq_left']
        by_cases hl : ds.length ≤ 16777216
        · rw [if_pos hl]
          simp only [hl, true_and]
          cases f [.ref s2.mem.length, y, .tup ds] (s2.mem ++ [.ins Cn []]) with
          | ok y m => cases y <;> simp
          | err x m => simp [NoM]
          | stuck => simp
        · rw [if_neg hl]; simp [hl]
    | _ => simp
  | _ => simp
theorem ok_mkS0 {Cn : Str} {f : Den} {dd : Dv} {Q : Dv → Ls → Prop} : Ok E (dMkS0 Cn f dd s) Q ↔ Ca (f [.ref s.mem.length, dd, .tup []] (s.mem ++ [.ins Cn []])) fun z m => z = .non ∧ Q (.ref s.mem.length) { s with mem := m } := by
  unfold dMkS0
  cases f [.ref s.mem.length, dd, .tup []] (s.mem ++ [.ins Cn []]) with
  | ok y m => cases y <;> simp
  | err x m => simp [NoM]
  | stuck => simp
theorem ok_prop {Cn : Str} {f : Den} {d : Ls → R Dv} {Q : Dv → Ls → Prop} : Ok E (dProp Cn f d s) Q ↔ Ok E (d s) fun o s => ∃ n, o = .ref n ∧ ∃ fs, s.mem[n]? = some (.ins Cn fs) ∧ CaE (up E s) (f [.ref n] s.mem) fun y m => Q y { s with mem := m } := by
  unfold dProp; rw [ok_bind]
  cases d s with
  | ok o s1 =>
    simp only [ok_ok]
    cases o with
    | ref n =>
      simp only
      cases h : s1.mem[n]? with
      | none => simp [h]
      | some o => cases o with
        | ins C fs =>
          simp only
          constructor
          · intro q
            split at q
            · rename_i hc; subst hc; exact ⟨n, rfl, fs, h, ok_r.mp q⟩
            · exact (ok_stuck.mp q).elim
          · rintro ⟨n', e1, fs', e2, q⟩
            cases e1
            rw [h] at e2; cases e2
            rw [if_pos rfl]; exact ok_r.mpr q
        | _ => simp [h]
    | _ => simp
  | _ => simp
theorem ok_inA {neg : Bool} {T : Str → Option Den} {C : Str} {f : Den} {n : Nat} {fs : List (Str × Dv)} {da : Ls → R Dv} {db : Ls → R Rd} {Q : Dv → Ls → Prop} (hT : T C = some f) (h : Ok E (da s) fun x s => Ok E (db s) fun y s => y.look s = some (.ref n) ∧ s.mem[n]? = some (.ins C fs) ∧ Ca (f [.ref n, x] s.mem) fun z m => ∃ b, z = .bl b ∧ Q (.bl (xor neg b)) { s with mem := m }) : Ok E (dInA neg T da db s) Q := by
  unfold dInA; rw [ok_bind]
  refine h.mono fun x s h => ?_
  rw [ok_bind]
  refine h.mono fun y s ⟨h1, h3, h5⟩ => ?_
  simp only [h1, insC_of h3, Option.bind_some, hT]
  revert h5
  cases f [.ref n, x] s.mem with
  | ok y m =>
    intro h
    obtain ⟨b, rfl, q⟩ := ca_ok.mp h
    exact .ok q
  | err x m => exact fun q => (ca_err.mp q).elim
  | stuck => exact fun q => (ca_stuck.mp q).elim
end
/-- x is the list ds, by itself or in the store -/
def LsAt (m : List Ob) (x : Dv) (ds : List Dv) : Prop := x = .lst ds ∨ ∃ n, x = .ref n ∧ m[n]? = some (.lst ds)
theorem LsAt.lst {m : List Ob} {ds : List Dv} : LsAt m (.lst ds) ds := .inl rfl
theorem LsAt.ref {m : List Ob} {ds : List Dv} {n : Nat} (h : m[n]? = some (.lst ds)) : LsAt m (.ref n) ds := .inr ⟨n, rfl, h⟩
theorem LsAt.look {m : List Ob} {ds : List Dv} {x : Dv} (h : LsAt m x ds) : lookDv m x = .lst ds := by
  rcases h with rfl | ⟨n, rfl, h⟩
  · rfl
  · exact lookDv_reflst h
theorem LsAt.src {E : Ex → Ls → Prop} {s : Ls} {x : Dv} {ds : List Dv} {Q : Src → Ls → Prop} (h : LsAt s.mem x ds) (q : ∀ chk : List Ob → Bool, chk s.mem = true → Q ⟨ds, chk⟩ s) : Ok E (srcOf x s) Q := by
  rcases h with rfl | ⟨n, rfl, h⟩
  · exact src_lst.mpr (q always rfl)
  · show Ok E (match s.mem[n]? with | some (.lst ds) => _ | _ => _) Q
    rw [h]
    exact .ok (q _ (@decide_eq_true _ (Classical.propDecidable _) h))
/-- a comprehension whose parts change nothing, over a list that may stand in the store -/
theorem lc_pureC {E : Ex → Ls → Prop} {m : List Ob} {chk : List Ob → Bool} {vs : List Nat} {g : Dv → Ls → Option Ls} {tt : Ls → R Bool} {el : Ls → R Dv} {L : List Sl} {T : List (List Dv)} {Q : Unit → Ls → Prop} (hc : chk m = true) (f : Dv → List Dv) (l : List Dv) (a : List Dv) (h : ∀ d ∈ l, ∀ acc : List Dv, To (g d ⟨L, m, T ++ [acc]⟩) fun s1 => Ok E (tt s1) fun b s2 => if b = true then Ok E (el s2) fun y s3 => f d = [y] ∧ wipeL s3.loc vs = L ∧ s3.mem = m ∧ s3.tmp = T ++ [acc] else f d = [] ∧ wipeL s2.loc vs = L ∧ s2.mem = m ∧ s2.tmp = T ++ [acc]) (hl : a.length + l.length ≤ 16777216) (q : Q () ⟨L, m, T ++ [a ++ l.flatMap f]⟩) : Ok E (dLcGo chk vs g tt el T.length l ⟨L, m, T ++ [a]⟩) Q := by
  refine lc_rule (fun l' s => (∀ d ∈ l', d ∈ l) ∧ ∃ a', s = ⟨L, m, T ++ [a']⟩ ∧ a'.length + l'.length ≤ 16777216 ∧ a' ++ l'.flatMap f = a ++ l.flatMap f) ?_ ?_ ?_ _ _ ⟨fun _ h => h, a, rfl, hl, rfl⟩
  · rintro l' s ⟨_, a', rfl, _⟩; exact hc
  · rintro s ⟨_, a', rfl, _, e⟩
    rw [List.flatMap_nil, List.append_nil] at e
    rw [e]; exact q
  · rintro d l' s ⟨h1, a', rfl, h2, h3⟩
    rw [List.length_cons] at h2
    obtain ⟨s1, eg, q'⟩ := h d (h1 d (List.mem_cons_self ..)) a'
    refine ⟨s1, eg, q'.mono fun b s2 q2 => ?_⟩
    by_cases hb : b = true
    · rw [if_pos hb] at q2 ⊢
      refine q2.mono fun y s3 ⟨e0, e1, e2, e3⟩ => ⟨a', by rw [e3]; simp, by omega, fun d hd => h1 d (List.mem_cons_of_mem _ hd), a' ++ [y], ?_, by simp; omega, ?_⟩
      · rw [e1, e2, e3]; simp
      · rw [List.flatMap_cons, e0] at h3
        rw [← h3]; simp
    · rw [if_neg hb] at q2 ⊢
      obtain ⟨e0, e1, e2, e3⟩ := q2
      refine ⟨fun d hd => h1 d (List.mem_cons_of_mem _ hd), a', ?_, by omega, ?_⟩
      · rw [e1]; cases s2; simp only at e2 e3; rw [e2, e3]
      · rw [List.flatMap_cons, e0] at h3
        rw [← h3]; simp
theorem lc0c {E : Ex → Ls → Prop} {m : List Ob} {chk : List Ob → Bool} {vs : List Nat} {g : Dv → Ls → Option Ls} {tt : Ls → R Bool} {el : Ls → R Dv} {L : List Sl} {Q : Unit → Ls → Prop} (hc : chk m = true) (f : Dv → List Dv) (l : List Dv) (h : ∀ d ∈ l, ∀ acc : List Dv, To (g d ⟨L, m, [acc]⟩) fun s1 => Ok E (tt s1) fun b s2 => if b = true then Ok E (el s2) fun y s3 => f d = [y] ∧ wipeL s3.loc vs = L ∧ s3.mem = m ∧ s3.tmp = [acc] else f d = [] ∧ wipeL s2.loc vs = L ∧ s2.mem = m ∧ s2.tmp = [acc]) (hl : l.length ≤ 16777216) (q : Q () ⟨L, m, [l.flatMap f]⟩) : Ok E (dLcGo chk vs g tt el 0 l ⟨L, m, [[]]⟩) Q :=
  lc_pureC (T := []) hc f l [] h (by simpa using hl) (by simpa using q)
/-- the store has grown, nothing old has changed -/
def Ext (m m' : List Ob) : Prop := m.length ≤ m'.length ∧ ∀ j, j < m.length → m'[j]? = m[j]?
theorem Ext.refl {m : List Ob} : Ext m m := ⟨Nat.le_refl _, fun _ _ => rfl⟩
theorem Ext.trans {m m1 m2 : List Ob} (a : Ext m m1) (b : Ext m1 m2) : Ext m m2 := ⟨Nat.le_trans a.1 b.1, fun j h => (b.2 j (Nat.lt_of_lt_of_le h a.1)).trans (a.2 j h)⟩
theorem Ext.app {m l : List Ob} : Ext m (m ++ l) := ⟨by simp, fun j h => List.getElem?_append_left h⟩
theorem Ext.get {m m' : List Ob} (h : Ext m m') {n : Nat} {o : Ob} (e : m[n]? = some o) : m'[n]? = some o := (h.2 n (List.getElem?_eq_some_iff.mp e).1).trans e
end DD

/-! E6: plain reasoning: exceptions as objects; i in range(n); equal to itself -/
namespace DD
open PySem L2
open PyProof.Rows hiding St
/-- an exception's object: its class and its fields, the last one first -/
def XAt (m : List Ob) (n : Nat) (C : Str) (fs : List (Str × Dv)) : Prop := (fs = [] ∧ m[n]? = some (.exn C none)) ∨ ∃ k, m[n]? = some (.exn C (some k)) ∧ m[k]? = some (.xdc fs)
theorem XAt.ext {m m' : List Ob} {n : Nat} {C : Str} {fs : List (Str × Dv)} (h : XAt m n C fs) (e : Ext m m') : XAt m' n C fs := by
  rcases h with ⟨h1, h2⟩ | ⟨k, h1, h2⟩
  · exact .inl ⟨h1, e.get h2⟩
  · exact .inr ⟨k, e.get h1, e.get h2⟩
theorem XAt.lt {m : List Ob} {n : Nat} {C : Str} {fs : List (Str × Dv)} (h : XAt m n C fs) : n < m.length := by
  rcases h with ⟨_, h⟩ | ⟨k, h, _⟩ <;> exact (List.getElem?_eq_some_iff.mp h).1
theorem XAt.look {m : List Ob} {n : Nat} {C : Str} {fs : List (Str × Dv)} (h : XAt m n C fs) : lookDv m (.ref n) = .ref n := by
  rcases h with ⟨_, h⟩ | ⟨k, h, _⟩ <;> simp only [lookDv, h]
theorem XAt.at0 {m : List Ob} {C : Str} : XAt (m ++ [.exn C none]) m.length C [] := .inl ⟨rfl, by simp⟩
/-- a field of an exception's object -/
def xget (ct : Str → Str → Bool) (m : List Ob) (n : Nat) (f : Str) : Option Dv := match m[n]? with
  | some (.exn C (some k)) => (match m[k]? with
    | some (.xdc fs) => if ct C f = true then fs.lookup f else none
    | _ => none)
  | _ => none
theorem XAt.get {ct : Str → Str → Bool} {m : List Ob} {n : Nat} {C f g : Str} {x : Dv} {fs : List (Str × Dv)} (h : XAt m n C ((g, x) :: fs)) (hc : ct C f = true) : xget ct m n f = ((g, x) :: fs).lookup f := by
  rcases h with ⟨h, _⟩ | ⟨k, h1, h2⟩
  · cases h
  · unfold xget; simp only [h1, h2]; rw [if_pos hc]
/-- a field set: what holds behind it -/
def XSet (f : Str) (y : Dv) (n : Nat) (C : Str) (o : Option Nat) (s : Ls) (N : Ls → Prop) : Prop := match o with
  | none => N { s with mem := (s.mem ++ [Ob.xdc [(f, y)]]).set n (.exn C (some s.mem.length)) }
  | some k => ∃ fs, s.mem[k]? = some (.xdc fs) ∧ fs.length ≤ 900 ∧ N { s with mem := s.mem.set k (.xdc ((f, y) :: fs)) }
section
variable {E : Ex → Ls → Prop} {loc : List Sl} {m : List Ob} {t : List (List Dv)} {s : Ls}
theorem ok_xo {ct : Str → Str → Bool} {f : Str} {d : Ls → R Dv} {Q : Dv → Ls → Prop} : Ok E (dXo ct f d s) Q ↔ Ok E (d s) fun x s => ∃ n, x = .ref n ∧ ∃ y, xget ct s.mem n f = some y ∧ Q y s := by
  unfold dXo; rw [ok_bind]
  cases d s with
  | ok x s1 =>
    simp only [ok_ok]
    cases x with
    | ref n =>
      simp only [Dv.ref.injEq, exists_eq_left', xget]
      cases h : s1.mem[n]? with
      | none => simp
      | some o => cases o with
        | exn C k => cases k with
          | none => simp
          | some k =>
            simp only
            cases h2 : s1.mem[k]? with
            | none => simp
            | some o => cases o with
              | xdc fs =>
                simp only
                by_cases hc : ct C f = true
                · rw [if_pos hc, if_pos hc]; exact ok_of
                · rw [if_neg hc, if_neg hc]; simp
              | _ => simp
        | _ => simp
    | _ => simp
  | _ => simp
theorem go_setX {ct : Str → Str → Bool} {f : Str} {dv d : Ls → R Dv} {D : Po} : Go (dSetX ct f dv d s) D ↔ Ok D.er (dv s) fun y s => Ok D.er (d s) fun x s => ∃ n, x = .ref n ∧ ∃ C o, s.mem[n]? = some (.exn C o) ∧ ct C f = true ∧ XSet f y n C o s D.nx := by
  unfold dSetX; simp only [go_fl]
  cases dv s with
  | ok y s0 =>
    simp only [ok_ok]
    cases d s0 with
    | ok x s1 =>
      simp only [ok_ok]
      cases x with
      | ref n =>
        simp only [Dv.ref.injEq, exists_eq_left']
        cases h : s1.mem[n]? with
        | none => simp
        | some o => cases o with
          | exn C k =>
            simp only [Option.some.injEq, Ob.exn.injEq]
            constructor
            · intro q
              refine ⟨C, k, ⟨rfl, rfl⟩, ?_⟩
              cases k with
              | none =>
                simp only at q
                by_cases hc : ct C f = true
                · rw [if_pos hc] at q; exact ⟨hc, go_nx.mp q⟩
                · rw [if_neg hc] at q; exact (go_stuck.mp q).elim
              | some k =>
                simp only at q
                cases h2 : s1.mem[k]? with
                | none => rw [h2] at q; exact (go_stuck.mp q).elim
                | some o => cases o with
                  | xdc fs =>
                    rw [h2] at q
                    simp only at q
                    by_cases hc : ct C f = true ∧ fs.length ≤ 900
                    · rw [if_pos hc] at q; exact ⟨hc.1, fs, h2, hc.2, go_nx.mp q⟩
                    · rw [if_neg hc] at q; exact (go_stuck.mp q).elim
                  | _ => rw [h2] at q; exact (go_stuck.mp q).elim
            · rintro ⟨C', k', ⟨rfl, rfl⟩, hc, q⟩
              cases k with
              | none =>
                simp only
                rw [if_pos hc]; exact .nx q
              | some k =>
                obtain ⟨fs, h2, h3, q⟩ := q
                simp only [h2]
                rw [if_pos ⟨hc, h3⟩]; exact .nx q
          | _ => simp
      | _ => simp
    | _ => simp
  | _ => simp
theorem xset0 {f C : Str} {y : Dv} {N : Ls → Prop} : XSet f y m.length C none ⟨loc, m ++ [.exn C none], t⟩ N ↔ N ⟨loc, m ++ [.exn C (some (m.length + 1)), .xdc [(f, y)]], t⟩ := by
  unfold XSet
  simp
theorem xset1 {f C : Str} {y : Dv} {fs : List (Str × Dv)} {n : Nat} {N : Ls → Prop} : XSet f y n C (some (m.length + 1)) ⟨loc, m ++ [.exn C (some (m.length + 1)), .xdc fs], t⟩ N ↔ fs.length ≤ 900 ∧ N ⟨loc, m ++ [.exn C (some (m.length + 1)), .xdc ((f, y) :: fs)], t⟩ := by
  unfold XSet
  have e : (m ++ [Ob.exn C (some (m.length + 1)), .xdc fs])[m.length + 1]? = some (.xdc fs) := by simp
  simp only [e]
  simp
theorem end0 {a : Ob} : (m ++ [a])[m.length]? = some a := by simp
theorem end1 {a b : Ob} : (m ++ [a, b])[m.length]? = some a := by simp
theorem ok_mkX {Cn : Str} {f : Den} {da : Ls → R (List Dv)} {Q : Dv → Ls → Prop} : Ok E (dMkX Cn f da s) Q ↔ Ok E (da s) fun xs s => xs.length ≤ 1000 ∧ Ca (f (.ref s.mem.length :: xs) (s.mem ++ [.exn Cn none])) fun z m => z = .non ∧ Q (.ref s.mem.length) { s with mem := m } := by
  unfold dMkX; rw [ok_bind]
  cases da s with
  | ok xs s1 =>
    simp only [ok_ok]
    by_cases hl : xs.length ≤ 1000
    · rw [if_pos hl]
      simp only [hl, true_and]
      cases f (.ref s1.mem.length :: xs) (s1.mem ++ [.exn Cn none]) with
      | ok y m => cases y <;> simp
      | err x m => simp [NoM]
      | stuck => simp
    · rw [if_neg hl]; simp [hl]
  | _ => simp
theorem ok_mkX0 {Cn : Str} {Q : Dv → Ls → Prop} : Ok E (dMkX0 Cn s) Q ↔ Q (.ref s.mem.length) { s with mem := s.mem ++ [.exn Cn none] } := ok_ok
theorem ok_inR {d dn : Ls → R Dv} {Q : Dv → Ls → Prop} : Ok E (dInR d dn s) Q ↔ Ok E (d s) fun x s => Ok E (dn s) fun y s => ∃ i, x = .int i ∧ ∃ n, y = .int n ∧ Q (.bl (decide (0 ≤ i ∧ i < n))) s := by
  unfold dInR; simp only [ok_bind]
  cases d s with
  | ok x s1 =>
    simp only [ok_ok]
    cases dn s1 with
    | ok y s2 =>
      simp only [ok_ok]
      cases x <;> cases y <;> simp
    | _ => simp
  | _ => simp
end
/-- which class an exception's object is of -/
theorem XAt.is {tb : Str → Tg → Option Bool} {m : List Ob} {n : Nat} {C : Str} {fs : List (Str × Dv)} {c : Dv} (h : XAt m n C fs) : fIsX tb m [.ref n, c] = (tagC c).bind fun u => (tb C u).map .bl := by
  rcases h with ⟨_, h⟩ | ⟨k, h, h2⟩
  · unfold fIsX; simp only [h]
  · unfold fIsX; simp only [h, h2]
theorem app_exn {m : List Ob} {C : Str} {fs : List (Str × Dv)} : XAt (m ++ [.exn C (some (m.length + 1)), .xdc fs]) m.length C fs := .inr ⟨m.length + 1, by simp, by simp⟩
/-! equal to itself -/
theorem eqD_self {x : Dv} {p : PyData} (h : toP x = some p) (hs : SeqAt.shaped p = true) (he : PyData.eqv p p = true) : eqD x x = some true := by
  unfold eqD
  rw [h]
  simp only [hs, Bool.and_self, if_true, he]
theorem fNe_self {x : Dv} (h : eqD x x = some true) : fNe x x = some (.bl false) := by unfold fNe; rw [h]; rfl
theorem fEq_self {x : Dv} (h : eqD x x = some true) : fEq x x = some (.bl true) := by unfold fEq; rw [h]; rfl
theorem eqD_pnself {x : Dv} {k : Nat} (h : Pn k x) (hk : k ≤ 64 := by decide) : eqD x x = some true := by
  rw [eqD_pn h h hk hk]; simp
theorem toPs_bl (bs : List Bool) : toPs (bs.map .bl) = some (bs.map .bool) ∧ PyData.canLayAll0 (bs.map .bool) = true ∧ PyData.depthAll (bs.map .bool) ≤ 1 ∧ PyData.eqvAll (bs.map .bool) (bs.map .bool) = true := by
  induction bs with
  | nil => exact ⟨rfl, by simp [PyData.canLayAll0], by simp [PyData.depthAll], by simp [PyData.eqvAll]⟩
  | cons b bs ih =>
    obtain ⟨h1, h2, h3, h4⟩ := ih
    refine ⟨?_, ?_, ?_, ?_⟩
    · simp [toPs, toP, h1]
    · simpa [PyData.canLayAll0, PyData.canLay0] using h2
    · simpa [PyData.depthAll, PyData.depth] using h3
    · simpa [PyData.eqvAll, PyData.eqv] using h4
theorem eqD_bls {bs : List Bool} : eqD (.lst (bs.map .bl)) (.lst (bs.map .bl)) = some true := by
  obtain ⟨h1, h2, h3, h4⟩ := toPs_bl bs
  refine eqD_self (p := .list (bs.map .bool)) (by simp only [toP, h1]) ?_ (by simpa [PyData.eqv] using h4)
  show (PyData.canLay0 (.list _) && decide (PyData.depth (.list _) ≤ 64)) = true
  rw [show PyData.canLay0 (.list (bs.map .bool)) = true by simpa [PyData.canLay0] using h2, decide_eq_true (show PyData.depth (.list (bs.map .bool)) ≤ 64 by simp [PyData.depth]; omega)]
  rfl
end DD

open PySem L2
namespace DD
open PySem L2 ClX
open PyProof.Rows hiding St
def flds : List (Str × Str) := []
def classes : List Str := []
def xflds : List (Str × Str) := [("Unordered", "index"), ("BadLine", "number"), ("TooMany", "most"), ("TooFar", "number"), ("NoDay", "number"), ("OtherEnds", "ends"), ("NotAllowed", "word"), ("Unknown", "word"), ("Twice", "number"), ("BadTurns", "turns"), ("EmptyRow", "first"), ("EmptyRow", "end"), ("EmptyStretch", "first"), ("EmptyStretch", "last"), ("Clash", "earlier"), ("Clash", "later"), ("TwoRows", "earlier"), ("TwoRows", "later"), ("Refused", "index"), ("Refused", "name"), ("Refused", "why")]
def xclasses : List Str := ["Unordered", "BadLine", "TooMany", "TooFar", "NoDay", "OtherEnds", "NotAllowed", "Unknown", "Twice", "BadTurns", "RowsError", "EmptyRow", "EmptyStretch", "Clash", "TwoRows", "NothingWrong", "NoScene", "HasHeads", "Refused"]
def xups : List (Str × Str) := [("Unordered", "RowsError"), ("BadLine", "RowsError"), ("TooMany", "RowsError"), ("TooFar", "RowsError"), ("NoDay", "RowsError"), ("OtherEnds", "RowsError"), ("NotAllowed", "RowsError"), ("Unknown", "RowsError"), ("Twice", "RowsError"), ("BadTurns", "RowsError"), ("EmptyRow", "RowsError"), ("EmptyStretch", "RowsError"), ("Clash", "RowsError"), ("TwoRows", "RowsError"), ("NothingWrong", "RowsError"), ("NoScene", "RowsError"), ("HasHeads", "RowsError"), ("Refused", "RowsError")]
noncomputable def B__law_take : Ls → Fl :=
  (dSeq (dIf (dTest (dOp (fCmpI fun i j => decide (j < i)) (dDv (dOp fIx (dSlot 0) (dDv (dC (.int 0))))) (dDv (dC (.int 0))))) (dSeq (dAsg (dOp fMod (dDv (dCB fInt (dCons (dDv (dOp fIx (dSlot 0) (dDv (dC (.int 0))))) dNil))) (dSlot 1)) (stV 2))
    (dSeq (dSetIx (dOp fDiv (dDv (dOp fIx (dSlot 0) (dDv (dC (.int 0))))) (dSlot 1)) (dSlot 0) (dC (.int 0)))
    (dRet (dVar 2)))) dNext)
    (dSeq (dSetIx (dOp fAdd (dDv (dOp fIx (dSlot 0) (dDv (dC (.int 2))))) (dDv (dC (.int 1)))) (dSlot 0) (dC (.int 2)))
    (dSeq (dAsg (dOp fMod (dDv (dCB fInt (dCons (dDv (dOp fPow (dDv (dOp fAdd (dDv (dOp fIx (dSlot 0) (dDv (dC (.int 1))))) (dDv (dOp fMul (dDv (dC (.int 1000033))) (dDv (dOp fIx (dSlot 0) (dDv (dC (.int 2))))))))) (dDv (dC (.int 3))))) dNil))) (dDv (dC (.int 2305843009213693921)))) (stV 3))
    (dSeq (dAsg (dOp fMod (dDv (dCB fInt (dCons (dDv (dOp fPow (dDv (dOp fAdd (dSlot 3) (dDv (dOp fMul (dDv (dC (.int 32452843))) (dDv (dOp fIx (dSlot 0) (dDv (dC (.int 2))))))))) (dDv (dC (.int 2))))) dNil))) (dDv (dC (.int 2305843009213693951)))) (stV 3))
    (dRet (dOp fMod (dDv (dCB fInt (dCons (dDv (dOp fDiv (dSlot 3) (dDv (dC (.int 2048))))) dNil))) (dSlot 1)))))))
noncomputable def c__law_take : Den := withD 2 [] (noEx (dDef 4 B__law_take))
noncomputable def B__law_of : Ls → Fl :=
  (dRet (dOp fIx (dSlot 1) (dDv (dFn c__law_take (dCons (dVar 0) (dCons (dCB fLen (dCons (dSlot 1) dNil)) dNil))))))
noncomputable def c__law_of : Den := withD 2 [] (noEx (dDef 2 B__law_of))
noncomputable def B__law_wide : Ls → Fl :=
  (dSeq (dIf (dTest (dOp (fCmpI fun i j => decide (j < i)) (dDv (dOp fIx (dSlot 0) (dDv (dC (.int 0))))) (dDv (dC (.int 0))))) (dRet (dFn c__law_take (dCons (dVar 0) (dCons (dVar 1) dNil)))) dNext)
    (dSeq (dAsg (dC (.int 0)) (stV 2))
    (dSeq (dFor (dRng1 (dCons (dC (.int 5)) dNil)) (stV 3) (dAsg (dOp fAdd (dDv (dOp fMul (dSlot 2) (dDv (dC (.int 1125899906842624))))) (dDv (dFn c__law_take (dCons (dVar 0) (dCons (dC (.int 1125899906842624)) dNil))))) (stV 2)))
    (dRet (dOp fMod (dDv (dCB fInt (dCons (dSlot 2) dNil))) (dSlot 1))))))
noncomputable def c__law_wide : Den := withD 2 [] (noEx (dDef 4 B__law_wide))
noncomputable def B__law_day : Ls → Fl :=
  (dSeq (dAsg (dFn c__law_of (dCons (dVar 0) (dCons (dLst (dCons (dC (.int 9)) (dCons (dC (.int 9)) (dCons (dC (.int 30)) (dCons (dOp fPow (dDv (dC (.int 10))) (dDv (dC (.int 6)))) (dCons (dOp fPow (dDv (dC (.int 10))) (dDv (dC (.int 30)))) (dCons (dOp fPow (dDv (dC (.int 10))) (dDv (dC (.int 59)))) dNil))))))) dNil))) (stV 1))
    (dRet (dOp fSub (dDv (dFn c__law_wide (dCons (dVar 0) (dCons (dOp fAdd (dDv (dOp fMul (dDv (dC (.int 2))) (dSlot 1))) (dDv (dC (.int 1)))) dNil)))) (dSlot 1))))
noncomputable def c__law_day : Den := withD 1 [] (noEx (dDef 2 B__law_day))
noncomputable def B__law_ends : Ls → Fl :=
  (dRet (dFn c__law_of (dCons (dVar 0) (dCons (dLst (dCons (dC (.str "last day")) (dCons (dC (.str "next day")) dNil))) dNil))))
noncomputable def c__law_ends : Den := withD 1 [] (noEx (dDef 1 B__law_ends))
noncomputable def B_Unordered_init : Ls → Fl :=
  (dSetX (ctOf xflds) "index" (dVar 1) (dVar 0))
noncomputable def c_Unordered_init : Den := withD 2 [] (noEx (dDef 2 B_Unordered_init))
noncomputable def B_BadLine_init : Ls → Fl :=
  (dSetX (ctOf xflds) "number" (dVar 1) (dVar 0))
noncomputable def c_BadLine_init : Den := withD 2 [] (noEx (dDef 2 B_BadLine_init))
noncomputable def B_TooMany_init : Ls → Fl :=
  (dSetX (ctOf xflds) "most" (dVar 1) (dVar 0))
noncomputable def c_TooMany_init : Den := withD 2 [] (noEx (dDef 2 B_TooMany_init))
noncomputable def B_TooFar_init : Ls → Fl :=
  (dSetX (ctOf xflds) "number" (dVar 1) (dVar 0))
noncomputable def c_TooFar_init : Den := withD 2 [] (noEx (dDef 2 B_TooFar_init))
noncomputable def B_NoDay_init : Ls → Fl :=
  (dSetX (ctOf xflds) "number" (dVar 1) (dVar 0))
noncomputable def c_NoDay_init : Den := withD 2 [] (noEx (dDef 2 B_NoDay_init))
noncomputable def B_OtherEnds_init : Ls → Fl :=
  (dSetX (ctOf xflds) "ends" (dVar 1) (dVar 0))
noncomputable def c_OtherEnds_init : Den := withD 2 [] (noEx (dDef 2 B_OtherEnds_init))
noncomputable def B_NotAllowed_init : Ls → Fl :=
  (dSetX (ctOf xflds) "word" (dVar 1) (dVar 0))
noncomputable def c_NotAllowed_init : Den := withD 2 [] (noEx (dDef 2 B_NotAllowed_init))
noncomputable def B_Unknown_init : Ls → Fl :=
  (dSetX (ctOf xflds) "word" (dVar 1) (dVar 0))
noncomputable def c_Unknown_init : Den := withD 2 [] (noEx (dDef 2 B_Unknown_init))
noncomputable def B_Twice_init : Ls → Fl :=
  (dSetX (ctOf xflds) "number" (dVar 1) (dVar 0))
noncomputable def c_Twice_init : Den := withD 2 [] (noEx (dDef 2 B_Twice_init))
noncomputable def B_BadTurns_init : Ls → Fl :=
  (dSetX (ctOf xflds) "turns" (dVar 1) (dVar 0))
noncomputable def c_BadTurns_init : Den := withD 2 [] (noEx (dDef 2 B_BadTurns_init))
noncomputable def B__law_kinds : Ls → Fl :=
  (dSeq (dAsg (dLst (dCons (dCM (fIsX (isXTbl xclasses xups)) (dCons (dSlot 0) (dCons (dDv (dC (.cls "EmptyRow"))) dNil))) (dCons (dCM (fIsX (isXTbl xclasses xups)) (dCons (dSlot 0) (dCons (dDv (dC (.cls "EmptyStretch"))) dNil))) (dCons (dCM (fIsX (isXTbl xclasses xups)) (dCons (dSlot 0) (dCons (dDv (dC (.cls "Unordered"))) dNil))) dNil)))) (stV 1))
    (dSeq (dAsg (dOp fAdd (dSlot 1) (dDv (dLst (dCons (dCM (fIsX (isXTbl xclasses xups)) (dCons (dSlot 0) (dCons (dDv (dC (.cls "Clash"))) dNil))) (dCons (dCM (fIsX (isXTbl xclasses xups)) (dCons (dSlot 0) (dCons (dDv (dC (.cls "BadLine"))) dNil))) (dCons (dCM (fIsX (isXTbl xclasses xups)) (dCons (dSlot 0) (dCons (dDv (dC (.cls "TooMany"))) dNil))) dNil)))))) (stV 1))
    (dSeq (dAsg (dOp fAdd (dSlot 1) (dDv (dLst (dCons (dCM (fIsX (isXTbl xclasses xups)) (dCons (dSlot 0) (dCons (dDv (dC (.cls "TooFar"))) dNil))) (dCons (dCM (fIsX (isXTbl xclasses xups)) (dCons (dSlot 0) (dCons (dDv (dC (.cls "NoDay"))) dNil))) (dCons (dCM (fIsX (isXTbl xclasses xups)) (dCons (dSlot 0) (dCons (dDv (dC (.cls "OtherEnds"))) dNil))) dNil)))))) (stV 1))
    (dSeq (dAsg (dOp fAdd (dSlot 1) (dDv (dLst (dCons (dCM (fIsX (isXTbl xclasses xups)) (dCons (dSlot 0) (dCons (dDv (dC (.cls "NotAllowed"))) dNil))) (dCons (dCM (fIsX (isXTbl xclasses xups)) (dCons (dSlot 0) (dCons (dDv (dC (.cls "Unknown"))) dNil))) (dCons (dCM (fIsX (isXTbl xclasses xups)) (dCons (dSlot 0) (dCons (dDv (dC (.cls "Twice"))) dNil))) dNil)))))) (stV 1))
    (dSeq (dAsg (dOp fAdd (dSlot 1) (dDv (dLst (dCons (dCM (fIsX (isXTbl xclasses xups)) (dCons (dSlot 0) (dCons (dDv (dC (.cls "TwoRows"))) dNil))) (dCons (dCM (fIsX (isXTbl xclasses xups)) (dCons (dSlot 0) (dCons (dDv (dC (.cls "NothingWrong"))) dNil))) (dCons (dCM (fIsX (isXTbl xclasses xups)) (dCons (dSlot 0) (dCons (dDv (dC (.cls "NoScene"))) dNil))) dNil)))))) (stV 1))
    (dRet (dOp fAdd (dSlot 1) (dDv (dLst (dCons (dCM (fIsX (isXTbl xclasses xups)) (dCons (dSlot 0) (dCons (dDv (dC (.cls "HasHeads"))) dNil))) (dCons (dCM (fIsX (isXTbl xclasses xups)) (dCons (dSlot 0) (dCons (dDv (dC (.cls "BadTurns"))) dNil))) (dCons (dCM (fIsX (isXTbl xclasses xups)) (dCons (dSlot 0) (dCons (dDv (dC (.cls "Refused"))) dNil))) dNil))))))))))))
noncomputable def c__law_kinds : Den := withD 1 [] (noEx (dDef 2 B__law_kinds))
noncomputable def B__law_is_own : Ls → Fl :=
  (dSeq (dIf (dOrB (dNotB (dTru (dDv (dCM (fIsX (isXTbl xclasses xups)) (dCons (dSlot 0) (dCons (dDv (dC (.cls "RowsError"))) dNil)))))) (dNotB (dTru (dDv (dCM (fIsX (isXTbl xclasses xups)) (dCons (dSlot 0) (dCons (dDv (dC (.ty "ValueError"))) dNil))))))) (dRet (dC (.bl false))) dNext)
    (dRet (dOp fEq (dDv (dFn c__law_kinds (dCons (dVar 0) dNil))) (dDv (dSettle (dLcN (dRng1 (dCons (dC (.int 18)) dNil)) [2] (stV 2) dYes (dOp fEq (dSlot 2) (dSlot 1))))))))
noncomputable def c__law_is_own : Den := withD 2 [] (noEx (dDef 3 B__law_is_own))
noncomputable def B__law_value : Ls → Fl :=
  (dSeq (dAsg (dFn c__law_take (dCons (dVar 0) (dCons (dC (.int 4)) dNil))) (stV 1))
    (dSeq (dIf (dTest (dOp fEq (dSlot 1) (dDv (dC (.int 0))))) (dRet (dOp fSub (dDv (dFn c__law_take (dCons (dVar 0) (dCons (dC (.int 5)) dNil)))) (dDv (dC (.int 2))))) dNext)
    (dSeq (dIf (dTest (dOp fEq (dSlot 1) (dDv (dC (.int 1))))) (dRet (dOp fSub (dDv (dFn c__law_wide (dCons (dVar 0) (dCons (dOp fMul (dDv (dC (.int 2))) (dDv (dOp fPow (dDv (dC (.int 10))) (dDv (dC (.int 59)))))) dNil)))) (dDv (dOp fPow (dDv (dC (.int 10))) (dDv (dC (.int 59))))))) dNext)
    (dSeq (dAsg (dC (.str "")) (stV 2))
    (dSeq (dFor (dRng1 (dCons (dFn c__law_of (dCons (dVar 0) (dCons (dLst (dCons (dC (.int 0)) (dCons (dC (.int 1)) (dCons (dC (.int 2)) (dCons (dC (.int 9)) dNil))))) dNil))) dNil)) (stV 3) (dAsg (dOp fAdd (dSlot 2) (dDv (dFn c__law_of (dCons (dVar 0) (dCons (dC (.str "0123456789abcxyzABZ '-_=~.!")) dNil))))) (stV 2)))
    (dRet (dVar 2)))))))
noncomputable def c__law_value : Den := withD 1 [] (noEx (dDef 4 B__law_value))
noncomputable def B_EmptyRow_init : Ls → Fl :=
  (dSeq (dSetX (ctOf xflds) "first" (dVar 1) (dVar 0))
    (dSetX (ctOf xflds) "end" (dVar 2) (dVar 0)))
noncomputable def c_EmptyRow_init : Den := withD 3 [] (noEx (dDef 3 B_EmptyRow_init))
noncomputable def B_EmptyStretch_init : Ls → Fl :=
  (dSeq (dSetX (ctOf xflds) "first" (dVar 1) (dVar 0))
    (dSetX (ctOf xflds) "last" (dVar 2) (dVar 0)))
noncomputable def c_EmptyStretch_init : Den := withD 3 [] (noEx (dDef 3 B_EmptyStretch_init))
noncomputable def B_Clash_init : Ls → Fl :=
  (dSeq (dSetX (ctOf xflds) "earlier" (dVar 1) (dVar 0))
    (dSetX (ctOf xflds) "later" (dVar 2) (dVar 0)))
noncomputable def c_Clash_init : Den := withD 3 [] (noEx (dDef 3 B_Clash_init))
noncomputable def B_TwoRows_init : Ls → Fl :=
  (dSeq (dSetX (ctOf xflds) "earlier" (dVar 1) (dVar 0))
    (dSetX (ctOf xflds) "later" (dVar 2) (dVar 0)))
noncomputable def c_TwoRows_init : Den := withD 3 [] (noEx (dDef 3 B_TwoRows_init))
noncomputable def B_Refused_init : Ls → Fl :=
  (dSeq (dSetX (ctOf xflds) "index" (dVar 1) (dVar 0))
    (dSeq (dSetX (ctOf xflds) "name" (dVar 2) (dVar 0))
    (dSetX (ctOf xflds) "why" (dVar 3) (dVar 0))))
noncomputable def c_Refused_init : Den := withD 4 [] (noEx (dDef 4 B_Refused_init))
noncomputable def B__law_pairs_right : Ls → Fl :=
  (dSeq (dPar [1, 2, 3] (dmV (dFn c__law_day (dCons (dVar 0) dNil)) (dmV (dFn c__law_day (dCons (dVar 0) dNil)) (dmV (dFn c__law_of (dCons (dVar 0) (dCons (dLst (dCons (dC (.str "alpha")) (dCons (dC (.str "")) (dCons (dC (.str "set")) (dCons (dC (.str "later")) dNil))))) dNil))) dmNil))))
    (dSeq (dPar [4, 5] (dmV (dTup (dCons (dVar 1) (dCons (dC .non) (dCons (dFn c__law_value (dCons (dVar 0) dNil)) dNil)))) (dmV (dTup (dCons (dVar 2) (dCons (dOp fAdd (dSlot 2) (dDv (dC (.int 3)))) (dCons (dFn c__law_value (dCons (dVar 0) dNil)) dNil)))) dmNil)))
    (dSeq (dPar [6, 7, 8] (dmV (dMkX "EmptyRow" c_EmptyRow_init (dCons (dVar 1) (dCons (dVar 2) dNil))) (dmV (dMkX "EmptyStretch" c_EmptyStretch_init (dCons (dVar 1) (dCons (dVar 2) dNil))) (dmV (dMkX "Clash" c_Clash_init (dCons (dVar 4) (dCons (dVar 5) dNil))) dmNil))))
    (dSeq (dPar [9, 10] (dmV (dMkX "TwoRows" c_TwoRows_init (dCons (dVar 4) (dCons (dVar 5) dNil))) (dmV (dMkX "Refused" c_Refused_init (dCons (dOp fSub (dDv (dFn c__law_take (dCons (dVar 0) (dCons (dC (.int 9)) dNil)))) (dSlot 1)) (dCons (dVar 3) (dCons (dC (.str "ends")) dNil)))) dmNil)))
    (dSeq (dIf (dTest (dOp fNe (dDv (dLst (dCons (dXo (ctOf xflds) "first" (dVar 6)) (dCons (dXo (ctOf xflds) "end" (dVar 6)) (dCons (dXo (ctOf xflds) "first" (dVar 7)) (dCons (dXo (ctOf xflds) "last" (dVar 7)) dNil)))))) (dDv (dLst (dCons (dVar 1) (dCons (dVar 2) (dCons (dVar 1) (dCons (dVar 2) dNil)))))))) (dRet (dC (.bl false))) dNext)
    (dSeq (dIf (dTest (dOp fNe (dDv (dLst (dCons (dXo (ctOf xflds) "earlier" (dVar 8)) (dCons (dXo (ctOf xflds) "later" (dVar 8)) (dCons (dXo (ctOf xflds) "earlier" (dVar 9)) (dCons (dXo (ctOf xflds) "later" (dVar 9)) dNil)))))) (dDv (dLst (dCons (dVar 4) (dCons (dVar 5) (dCons (dVar 4) (dCons (dVar 5) dNil)))))))) (dRet (dC (.bl false))) dNext)
    (dSeq (dIf (dTest (dOp fNe (dDv (dLst (dCons (dInR (dOp fAdd (dDv (dXo (ctOf xflds) "index" (dVar 10))) (dSlot 1)) (dC (.int 9))) (dCons (dXo (ctOf xflds) "name" (dVar 10)) (dCons (dXo (ctOf xflds) "why" (dVar 10)) dNil))))) (dDv (dLst (dCons (dC (.bl true)) (dCons (dVar 3) (dCons (dC (.str "ends")) dNil))))))) (dRet (dC (.bl false))) dNext)
    (dSeq (dIf (dOrB (dNotB (dTru (dDv (dFn c__law_is_own (dCons (dVar 6) (dCons (dC (.int 0)) dNil)))))) (dOrB (dNotB (dTru (dDv (dFn c__law_is_own (dCons (dVar 7) (dCons (dC (.int 1)) dNil)))))) (dNotB (dTru (dDv (dFn c__law_is_own (dCons (dVar 8) (dCons (dC (.int 3)) dNil)))))))) (dRet (dC (.bl false))) dNext)
    (dRet (dAndV (dFn c__law_is_own (dCons (dVar 9) (dCons (dC (.int 12)) dNil))) (dFn c__law_is_own (dCons (dVar 10) (dCons (dC (.int 17)) dNil)))))))))))))
noncomputable def c__law_pairs_right : Den := withD 1 [] (noEx (dDef 11 B__law_pairs_right))
noncomputable def B__law_right_0 : Ls → Fl :=
  (dPar [1, 2, 3] (dmV (dFn c__law_day (dCons (dVar 0) dNil)) (dmV (dFn c__law_of (dCons (dVar 0) (dCons (dLst (dCons (dC (.str "set")) (dCons (dC (.str "")) (dCons (dC (.str "Move")) (dCons (dC (.str "x y")) dNil))))) dNil))) (dmV (dFn c__law_ends (dCons (dVar 0) dNil)) dmNil))))
noncomputable def B__law_right_1 : Ls → Fl :=
  (dAsg (dTup (dCons (dMkX "Unordered" c_Unordered_init (dCons (dVar 1) dNil)) (dCons (dMkX "BadLine" c_BadLine_init (dCons (dVar 1) dNil)) (dCons (dMkX "TooMany" c_TooMany_init (dCons (dVar 1) dNil)) (dCons (dMkX "TooFar" c_TooFar_init (dCons (dVar 1) dNil)) dNil))))) (stTup (stCons (stV 4) (stCons (stV 5) (stCons (stV 6) (stCons (stV 7) stNil))))))
noncomputable def B__law_right_2 : Ls → Fl :=
  (dAsg (dTup (dCons (dMkX "NoDay" c_NoDay_init (dCons (dVar 1) dNil)) (dCons (dMkX "OtherEnds" c_OtherEnds_init (dCons (dVar 3) dNil)) (dCons (dMkX "NotAllowed" c_NotAllowed_init (dCons (dVar 2) dNil)) (dCons (dMkX "Unknown" c_Unknown_init (dCons (dVar 2) dNil)) dNil))))) (stTup (stCons (stV 8) (stCons (stV 9) (stCons (stV 10) (stCons (stV 11) stNil))))))
noncomputable def B__law_right_3 : Ls → Fl :=
  (dPar [12, 13, 14] (dmV (dMkX "Unknown" c_Unknown_init (dCons (dVar 1) dNil)) (dmV (dMkX "Twice" c_Twice_init (dCons (dVar 1) dNil)) (dmV (dMkX "BadTurns" c_BadTurns_init (dCons (dVar 2) dNil)) dmNil))))
noncomputable def B__law_right_4 : Ls → Fl :=
  (dAsg (dLst (dCons (dXo (ctOf xflds) "index" (dVar 4)) (dCons (dXo (ctOf xflds) "number" (dVar 5)) (dCons (dXo (ctOf xflds) "most" (dVar 6)) (dCons (dXo (ctOf xflds) "number" (dVar 7)) (dCons (dXo (ctOf xflds) "number" (dVar 8)) (dCons (dXo (ctOf xflds) "word" (dVar 12)) (dCons (dXo (ctOf xflds) "number" (dVar 13)) dNil)))))))) (stV 15))
noncomputable def B__law_right_5 : Ls → Fl :=
  (dIf (dOrB (dTest (dOp fNe (dSlot 15) (dDv (dOp fMul (dDv (dLst (dCons (dVar 1) dNil))) (dDv (dC (.int 7))))))) (dTest (dOp fNe (dDv (dLst (dCons (dXo (ctOf xflds) "ends" (dVar 9)) (dCons (dXo (ctOf xflds) "word" (dVar 10)) (dCons (dXo (ctOf xflds) "word" (dVar 11)) (dCons (dXo (ctOf xflds) "turns" (dVar 14)) dNil)))))) (dDv (dLst (dCons (dVar 3) (dCons (dVar 2) (dCons (dVar 2) (dCons (dVar 2) dNil))))))))) (dRet (dC (.bl false))) dNext)
noncomputable def B__law_right_6 : Ls → Fl :=
  (dIf (dNotB (dTru (dDv (dCB fAll (dCons (dDv (dLst (dCons (dFn c__law_is_own (dCons (dVar 4) (dCons (dC (.int 2)) dNil))) (dCons (dFn c__law_is_own (dCons (dVar 5) (dCons (dC (.int 4)) dNil))) (dCons (dFn c__law_is_own (dCons (dVar 6) (dCons (dC (.int 5)) dNil))) (dCons (dFn c__law_is_own (dCons (dVar 7) (dCons (dC (.int 6)) dNil))) dNil)))))) dNil))))) (dRet (dC (.bl false))) dNext)
noncomputable def B__law_right_7 : Ls → Fl :=
  (dIf (dNotB (dTru (dDv (dCB fAll (dCons (dDv (dLst (dCons (dFn c__law_is_own (dCons (dVar 8) (dCons (dC (.int 7)) dNil))) (dCons (dFn c__law_is_own (dCons (dVar 9) (dCons (dC (.int 8)) dNil))) (dCons (dFn c__law_is_own (dCons (dVar 10) (dCons (dC (.int 9)) dNil))) (dCons (dFn c__law_is_own (dCons (dVar 11) (dCons (dC (.int 10)) dNil))) dNil)))))) dNil))))) (dRet (dC (.bl false))) dNext)
noncomputable def B__law_right_8 : Ls → Fl :=
  (dIf (dOrB (dNotB (dTru (dDv (dFn c__law_is_own (dCons (dVar 12) (dCons (dC (.int 10)) dNil)))))) (dOrB (dNotB (dTru (dDv (dFn c__law_is_own (dCons (dVar 13) (dCons (dC (.int 11)) dNil)))))) (dNotB (dTru (dDv (dFn c__law_is_own (dCons (dVar 14) (dCons (dC (.int 16)) dNil)))))))) (dRet (dC (.bl false))) dNext)
noncomputable def B__law_right_9 : Ls → Fl :=
  (dIf (dOrB (dNotB (dTru (dDv (dFn c__law_is_own (dCons (dMkX0 "NothingWrong") (dCons (dC (.int 13)) dNil)))))) (dOrB (dNotB (dTru (dDv (dFn c__law_is_own (dCons (dMkX0 "NoScene") (dCons (dC (.int 14)) dNil)))))) (dNotB (dTru (dDv (dFn c__law_is_own (dCons (dMkX0 "HasHeads") (dCons (dC (.int 15)) dNil)))))))) (dRet (dC (.bl false))) dNext)
noncomputable def B__law_right_10 : Ls → Fl :=
  (dRet (dAndV (dOp (fIs false) (dDv (dCB fAny (dCons (dDv (dFn c__law_kinds (dCons (dMkX0 "RowsError") dNil))) dNil))) (dDv (dC (.bl false)))) (dFn c__law_pairs_right (dCons (dVar 0) dNil))))
noncomputable def B__law_right : Ls → Fl :=
  (dSeq B__law_right_0
    (dSeq B__law_right_1
    (dSeq B__law_right_2
    (dSeq B__law_right_3
    (dSeq B__law_right_4
    (dSeq B__law_right_5
    (dSeq B__law_right_6
    (dSeq B__law_right_7
    (dSeq B__law_right_8
    (dSeq B__law_right_9
    B__law_right_10))))))))))
noncomputable def c__law_right : Den := withD 1 [] (noEx (dDef 16 B__law_right))
noncomputable def B__law_bag : Ls → Fl :=
  (dSeq (dAsg (dIfE (dTest (dOp (fCmpI fun i j => decide (i < j)) (dSlot 1) (dDv (dCB fLen (dCons (dSlot 0) dNil))))) (dOp fIx (dSlot 0) (dSlot 1)) (dC (.int 0))) (stV 2))
    (dSeq (dAsg (dIfE (dTest (dOp (fCmpI fun i j => decide (j ≤ i)) (dDv (dCB fAbs (dCons (dSlot 2) dNil))) (dDv (dOp fPow (dDv (dC (.int 10))) (dDv (dC (.int 18))))))) (dCB fAbs (dCons (dSlot 2) dNil)) (dC (.int 0))) (stV 3))
    (dRet (dStore (dLstN (dCons (dVar 3) (dCons (dOp fAdd (dDv (dOp fAdd (dDv (dOp fMul (dDv (dOp fMod (dDv (dCB fInt (dCons (dSlot 2) dNil))) (dDv (dC (.int 2305843009213693951))))) (dDv (dC (.int 5))))) (dDv (dOp fMul (dDv (dC (.int 6691))) (dSlot 1))))) (dDv (dC (.int 3067)))) (dCons (dC (.int 0)) dNil))))))))
noncomputable def c__law_bag : Den := withD 2 [] (noEx (dDef 4 B__law_bag))
noncomputable def B_law_0 : Ls → Fl :=
  (dFor (dRng1 (dCons (dCB fMax2 (dCons (dDv (dC (.int 1))) (dCons (dDv (dCB fMin2 (dCons (dDv (dC (.int 8))) (dCons (dDv (dCB fLen (dCons (dSlot 0) dNil))) dNil)))) dNil))) dNil)) (stV 1) (dIf (dNotB (dTru (dDv (dFn c__law_right (dCons (dFn c__law_bag (dCons (dVar 0) (dCons (dVar 1) dNil))) dNil))))) (dRet (dC (.bl false))) dNext))
noncomputable def B_law_1 : Ls → Fl :=
  (dRet (dC (.bl true)))
noncomputable def B_law : Ls → Fl :=
  (dSeq B_law_0
    B_law_1)
noncomputable def c_law : Den := withD 1 [] (noEx (dDef 2 B_law))
end DD

namespace DD
open PySem L2
/-! ### the bag of draws -/
/-- a bag in the store at n, good for k draws -/
def Bag (m : List Ob) (n k : Nat) : Prop := ∃ a b c : Int, m[n]? = some (.lst [.int a, .int b, .int c]) ∧ 0 ≤ a ∧ 0 ≤ b ∧ b < 2 ^ 70 ∧ 0 ≤ c ∧ c + k ≤ 2 ^ 30
/-- nothing but n has changed -/
def Keeps (m : List Ob) (n : Nat) (m' : List Ob) : Prop := m'.length = m.length ∧ ∀ j, j ≠ n → m'[j]? = m[j]?
theorem Keeps.refl {m : List Ob} {n : Nat} : Keeps m n m := ⟨rfl, fun _ _ => rfl⟩
theorem Keeps.trans {m m1 m2 : List Ob} {n : Nat} (a : Keeps m n m1) (b : Keeps m1 n m2) : Keeps m n m2 := ⟨b.1.trans a.1, fun j h => (b.2 j h).trans (a.2 j h)⟩
theorem Keeps.set {m : List Ob} {n : Nat} {o : Ob} : Keeps m n (m.set n o) := ⟨List.length_set, fun j h => List.getElem?_set_ne (fun e => h e.symm)⟩
theorem Bag.mono {m : List Ob} {n k j : Nat} (h : Bag m n k) (e : j ≤ k) : Bag m n j := by
  obtain ⟨a, b, c, h1, h2, h3, h4, h5, h6⟩ := h
  exact ⟨a, b, c, h1, h2, h3, h4, h5, by omega⟩
theorem get_set {m : List Ob} {n : Nat} {o o' : Ob} (h : m[n]? = some o) : (m.set n o')[n]? = some o' := by
  have := (List.getElem?_eq_some_iff.mp h).1
  simp [this]
theorem look_set {m : List Ob} {n : Nat} {o : Ob} {ds : List Dv} (h : m[n]? = some o) : lookDv (m.set n (.lst ds)) (.ref n) = .lst ds := lookDv_reflst (get_set h)
theorem log_of {i : Int} {k : Nat} (h0 : 0 ≤ i) (h : i < 2 ^ k) (hk : 0 < k) : i.natAbs.log2 < k := by
  refine lap_log ?_ hk
  have : (i.natAbs : Int) = i := Int.natAbs_of_nonneg h0
  have h2 : ((i.natAbs : Nat) : Int) < ((2 ^ k : Nat) : Int) := by rw [this]; exact_mod_cast h
  exact Int.ofNat_lt.mp h2
theorem take_t {m : List Ob} {n k : Nat} {j : Int} {Q : Dv → List Ob → Prop} (hb : Bag m n (k + 1)) (hj : 0 < j) (hl : j.natAbs.log2 < 9000) (h : ∀ (r : Int) m', 0 ≤ r → r < j → Bag m' n k → Keeps m n m' → Q (.int r) m') : Ca (c__law_take [.ref n, .int j] m) Q := by
  obtain ⟨a, b, c, hm, ha, hb0, hb1, hc0, hc1⟩ := hb
  refine ca_def rfl ?_
  unfold B__law_take
  simp (maxSteps := 2000000) only [↓go_seq, ↓go_next, ↓go_cont, ↓go_break, ↓go_retN, ↓go_ret, ↓go_if, ↓go_drop, ↓go_asg, ↓to_V, ↓to_tup, ↓to_cons, ↓to_nil, ↓ok_c, ↓ok_dv, ↓ok_op, ↓ok_un, ↓ok_nil, ↓ok_cons, ↓ok_tup, ↓ok_lst, ↓ok_tru, ↓ok_test, ↓ok_notB, ↓ok_andB, ↓ok_orB, ↓ok_ifE, ↓ok_notV, ↓ok_fn, ↓ok_cb, ↓ok_cm, ↓ok_var, ↓ok_slot, look_slot, look_dv, lookDv_int, lookDv_str, lookDv_bl, lookDv_non, lookDv_tup, lookDv_lst, lookDv_scr, lookDv_ty, lookDv_cls, ↓ok_lstN, push_def, ↓go_asgN, ↓to_N0, ↓ok_settle, ↓ok_store, ↓ok_opN, ↓ok_cn, ↓ok_mut, ↓go_setIx, list_slot, put_slot, ↓ok_fld, ↓go_setF, ↓ok_mt, ↓ok_mk, ↓go_for, ↓ok_rng1, ↓ok_rng2, ↓ok_enum, ↓ok_zip, ↓ok_no, ↓ok_sl, ↓ok_ite, ↓go_ite, ↓ok_ok, ↓ok_stuck, ↓go_stuck, startL, List.map_cons, List.map_nil, List.length_cons, List.length_nil, List.replicate, List.append_nil, List.nil_append, List.cons_append, List.getElem?_cons_zero, List.getElem?_cons_succ, List.set_cons_zero, List.set_cons_succ, Option.bind_some, lookAll, List.getElem?_nil, Nat.zero_add, Nat.reduceAdd, Nat.reduceSub, Nat.reduceLT, true_and, and_true, List.dropLast_singleton, List.length_singleton, if_true, if_false, Bool.not_true, Bool.not_false, Option.some.injEq, exists_eq_left', exists_eq_left, reduceCtorEq, Bool.false_eq_true, ite_true, ite_false, Option.isSome_some, ixL, ixT, ixS, at0, at1, at2, cmpI_int, add_int, sub_int, int_int, neg_int, is_non, Dv.int.injEq, Dv.bl.injEq, Dv.ref.injEq, Dv.tup.injEq, Dv.lst.injEq, Ob.lst.injEq, Ob.ins.injEq, decide_eq_true_eq, Prod.mk.injEq, and_assoc, exists_and_left, List.cons.injEq, ix30, ix31, ix32, szOk_le, Nat.reduceLeDiff, p59, p30, p6, p12, p18, ↓ok_src, ↓src_lst, ↓src_tup, ↓src_str, ↓src_scr, ↓ok_prt, ↓ok_lcN, ↓ok_sortSet, ↓ok_sortK0, ↓to_Ng, ↓go_par, ↓ok_dmNil, ↓ok_dmV, ↓ok_dmN, ↓to_stIs0, ↓to_stIs, ↓to_stIv, ↓to_stIn, ↓ok_andV, ↓ok_orV, tru_bl, tru_lst, ↓ok_chain, wipe0, wipe1, unwipe0, unwipe1, noOwn0, noOwn1, unown_no, unown_val, ↓ok_yes, List.getD_cons_zero, List.getD_cons_succ, List.getD_nil, Bool.true_and, Bool.and_true, incr, decide_true, Nat.zero_le, Nat.le_refl, eq_int, ne_int, nn_non, nn_int, nn_str, nn_bl, nn_tup, nn_lst, nn_ref, x_tt, x_tf, x_ft, x_ff, up_no, seqK_lst, seqK_tup, seqD_lst, seqD_tup, ↓ok_err, ↓go_er, ↓go_never, ↓ok_mkS, ↓ok_mkS0, ↓ok_prop, List.dropLast_cons₂, List.dropLast_nil, lookDv_reflst hm, mod_int hj, div_int hj hl, hm, look_set hm]
  have hc2 : c < 2 ^ 30 := by omega
  split
  · exact h _ _ (Int.emod_nonneg _ (by omega)) (Int.emod_lt_of_pos _ hj) ⟨a / j, b, c, get_set hm, Int.ediv_nonneg ha (by omega), hb0, hb1, hc0, by omega⟩ Keeps.set
  · have l0 : (c + 1).natAbs.log2 < 31 := log_of (by omega) (by omega) (by decide)
    have l1 : (b + 1000033 * (c + 1)).natAbs.log2 < 72 := log_of (by omega) (by omega) (by decide)
    have q1 := Int.emod_nonneg ((b + 1000033 * (c + 1)) ^ 3) (show (2305843009213693921 : Int) ≠ 0 by decide)
    have q2 := Int.emod_lt_of_pos ((b + 1000033 * (c + 1)) ^ 3) (show (0 : Int) < 2305843009213693921 by decide)
    have l2 : ((b + 1000033 * (c + 1)) ^ 3 % 2305843009213693921 + 32452843 * (c + 1)).natAbs.log2 < 72 := log_of (by omega) (by omega) (by decide)
    have k1 : (1000033 : Int).natAbs.log2 < 20 := by decide
    have k2 : (32452843 : Int).natAbs.log2 < 25 := by decide
    refine ⟨_, mul_int (by omega), _, add_int, _, pow_int (n := 3) (by omega), _, int_int, _, mod_int (by decide), _, mul_int (by omega), _, add_int, _, pow_int (n := 2) (by omega), _, int_int, _, mod_int (by decide), _, div_int (by decide) (by decide), _, int_int, _, mod_int hj, h _ _ (Int.emod_nonneg _ (by omega)) (Int.emod_lt_of_pos _ hj) ⟨a, b, c + 1, get_set hm, ha, hb0, hb1, by omega, by omega⟩ Keeps.set⟩
theorem go_for1 {loc : List Sl} {m : List Ob} {j : Int} {g : Dv → Ls → Option Ls} {b : Ls → Fl} {D : Po} (h : Go (dForGo always g b (rngItems 0 j.toNat) ⟨loc, m, []⟩) D) (hj : rngOk j = true) : ∃ k, [Dv.int j] = [.int k] ∧ rngOk k = true ∧ Go (dForGo always g b (rngItems 0 k.toNat) ⟨loc, m, []⟩) D := ⟨j, rfl, hj, h⟩
theorem rng_len {lo : Int} {n : Nat} : (rngItems lo n).length = n := by unfold rngItems; simp
theorem wide_t {m : List Ob} {n k : Nat} {j : Int} {Q : Dv → List Ob → Prop} (hb : Bag m n (k + 5)) (hj : 0 < j) (hl : j.natAbs.log2 < 9000) (h : ∀ (r : Int) m', 0 ≤ r → r < j → Bag m' n k → Keeps m n m' → Q (.int r) m') : Ca (c__law_wide [.ref n, .int j] m) Q := by
  obtain ⟨a, b, c, hm, ha, hb0, hb1, hc0, hc1⟩ := hb
  refine ca_def rfl ?_
  unfold B__law_wide
  simp (maxSteps := 2000000) only [↓go_seq, ↓go_next, ↓go_cont, ↓go_break, ↓go_retN, ↓go_ret, ↓go_if, ↓go_drop, ↓go_asg, ↓to_V, ↓to_tup, ↓to_cons, ↓to_nil, ↓ok_c, ↓ok_dv, ↓ok_op, ↓ok_un, ↓ok_nil, ↓ok_cons, ↓ok_tup, ↓ok_lst, ↓ok_tru, ↓ok_test, ↓ok_notB, ↓ok_andB, ↓ok_orB, ↓ok_ifE, ↓ok_notV, ↓ok_fn, ↓ok_cb, ↓ok_cm, ↓ok_var, ↓ok_slot, look_slot, look_dv, lookDv_int, lookDv_str, lookDv_bl, lookDv_non, lookDv_tup, lookDv_lst, lookDv_scr, lookDv_ty, lookDv_cls, ↓ok_lstN, push_def, ↓go_asgN, ↓to_N0, ↓ok_settle, ↓ok_store, ↓ok_opN, ↓ok_cn, ↓ok_mut, ↓go_setIx, list_slot, put_slot, ↓ok_fld, ↓go_setF, ↓ok_mt, ↓ok_mk, ↓go_for, ↓ok_rng1, ↓ok_rng2, ↓ok_enum, ↓ok_zip, ↓ok_no, ↓ok_sl, ↓ok_ite, ↓go_ite, ↓ok_ok, ↓ok_stuck, ↓go_stuck, startL, List.map_cons, List.map_nil, List.length_cons, List.length_nil, List.replicate, List.append_nil, List.nil_append, List.cons_append, List.getElem?_cons_zero, List.getElem?_cons_succ, List.set_cons_zero, List.set_cons_succ, Option.bind_some, lookAll, List.getElem?_nil, Nat.zero_add, Nat.reduceAdd, Nat.reduceSub, Nat.reduceLT, true_and, and_true, List.dropLast_singleton, List.length_singleton, if_true, if_false, Bool.not_true, Bool.not_false, Option.some.injEq, exists_eq_left', exists_eq_left, reduceCtorEq, Bool.false_eq_true, ite_true, ite_false, Option.isSome_some, ixL, ixT, ixS, at0, at1, at2, cmpI_int, add_int, sub_int, int_int, neg_int, is_non, Dv.int.injEq, Dv.bl.injEq, Dv.ref.injEq, Dv.tup.injEq, Dv.lst.injEq, Ob.lst.injEq, Ob.ins.injEq, decide_eq_true_eq, Prod.mk.injEq, and_assoc, exists_and_left, List.cons.injEq, ix30, ix31, ix32, szOk_le, Nat.reduceLeDiff, p59, p30, p6, p12, p18, ↓ok_src, ↓src_lst, ↓src_tup, ↓src_str, ↓src_scr, ↓ok_prt, ↓ok_lcN, ↓ok_sortSet, ↓ok_sortK0, ↓to_Ng, ↓go_par, ↓ok_dmNil, ↓ok_dmV, ↓ok_dmN, ↓to_stIs0, ↓to_stIs, ↓to_stIv, ↓to_stIn, ↓ok_andV, ↓ok_orV, tru_bl, tru_lst, ↓ok_chain, wipe0, wipe1, unwipe0, unwipe1, noOwn0, noOwn1, unown_no, unown_val, ↓ok_yes, List.getD_cons_zero, List.getD_cons_succ, List.getD_nil, Bool.true_and, Bool.and_true, incr, decide_true, Nat.zero_le, Nat.le_refl, eq_int, ne_int, nn_non, nn_int, nn_str, nn_bl, nn_tup, nn_lst, nn_ref, x_tt, x_tf, x_ft, x_ff, up_no, seqK_lst, seqK_tup, seqD_lst, seqD_tup, ↓ok_err, ↓go_er, ↓go_never, ↓ok_mkS, ↓ok_mkS0, ↓ok_prop, List.dropLast_cons₂, List.dropLast_nil, lookDv_reflst hm, hm]
  split
  · exact take_t (k := k + 4) ⟨a, b, c, hm, ha, hb0, hb1, hc0, hc1⟩ hj hl fun r m' h1 h2 h3 h4 => h r m' h1 h2 (h3.mono (by omega)) h4
  · refine ⟨by decide, ?_⟩
    refine for_rule (fun l s => l.length ≤ 5 ∧ ∃ (num : Int) (x : Sl) (m1 : List Ob), s = ⟨[.val (.ref n), .val (.int j), .val (.int num), x], m1, []⟩ ∧ 0 ≤ num ∧ num < 2 ^ (50 * (5 - l.length)) ∧ Bag m1 n (k + l.length) ∧ Keeps m n m1) (fun _ _ _ => rfl) ?_ ?_ _ _ ⟨by rw [rng_len]; decide, 0, .no, m, rfl, by decide, by rw [rng_len]; decide, by rw [rng_len]; exact ⟨a, b, c, hm, ha, hb0, hb1, hc0, hc1⟩, Keeps.refl⟩
    · rintro s ⟨_, num, x, m1, rfl, h1, h2, h3, h4⟩
      simp (maxSteps := 2000000) only [↓go_seq, ↓go_next, ↓go_cont, ↓go_break, ↓go_retN, ↓go_ret, ↓go_if, ↓go_drop, ↓go_asg, ↓to_V, ↓to_tup, ↓to_cons, ↓to_nil, ↓ok_c, ↓ok_dv, ↓ok_op, ↓ok_un, ↓ok_nil, ↓ok_cons, ↓ok_tup, ↓ok_lst, ↓ok_tru, ↓ok_test, ↓ok_notB, ↓ok_andB, ↓ok_orB, ↓ok_ifE, ↓ok_notV, ↓ok_fn, ↓ok_cb, ↓ok_cm, ↓ok_var, ↓ok_slot, look_slot, look_dv, lookDv_int, lookDv_str, lookDv_bl, lookDv_non, lookDv_tup, lookDv_lst, lookDv_scr, lookDv_ty, lookDv_cls, ↓ok_lstN, push_def, ↓go_asgN, ↓to_N0, ↓ok_settle, ↓ok_store, ↓ok_opN, ↓ok_cn, ↓ok_mut, ↓go_setIx, list_slot, put_slot, ↓ok_fld, ↓go_setF, ↓ok_mt, ↓ok_mk, ↓go_for, ↓ok_rng1, ↓ok_rng2, ↓ok_enum, ↓ok_zip, ↓ok_no, ↓ok_sl, ↓ok_ite, ↓go_ite, ↓ok_ok, ↓ok_stuck, ↓go_stuck, startL, List.map_cons, List.map_nil, List.length_cons, List.length_nil, List.replicate, List.append_nil, List.nil_append, List.cons_append, List.getElem?_cons_zero, List.getElem?_cons_succ, List.set_cons_zero, List.set_cons_succ, Option.bind_some, lookAll, List.getElem?_nil, Nat.zero_add, Nat.reduceAdd, Nat.reduceSub, Nat.reduceLT, true_and, and_true, List.dropLast_singleton, List.length_singleton, if_true, if_false, Bool.not_true, Bool.not_false, Option.some.injEq, exists_eq_left', exists_eq_left, reduceCtorEq, Bool.false_eq_true, ite_true, ite_false, Option.isSome_some, ixL, ixT, ixS, at0, at1, at2, cmpI_int, add_int, sub_int, int_int, neg_int, is_non, Dv.int.injEq, Dv.bl.injEq, Dv.ref.injEq, Dv.tup.injEq, Dv.lst.injEq, Ob.lst.injEq, Ob.ins.injEq, decide_eq_true_eq, Prod.mk.injEq, and_assoc, exists_and_left, List.cons.injEq, ix30, ix31, ix32, szOk_le, Nat.reduceLeDiff, p59, p30, p6, p12, p18, ↓ok_src, ↓src_lst, ↓src_tup, ↓src_str, ↓src_scr, ↓ok_prt, ↓ok_lcN, ↓ok_sortSet, ↓ok_sortK0, ↓to_Ng, ↓go_par, ↓ok_dmNil, ↓ok_dmV, ↓ok_dmN, ↓to_stIs0, ↓to_stIs, ↓to_stIv, ↓to_stIn, ↓ok_andV, ↓ok_orV, tru_bl, tru_lst, ↓ok_chain, wipe0, wipe1, unwipe0, unwipe1, noOwn0, noOwn1, unown_no, unown_val, ↓ok_yes, List.getD_cons_zero, List.getD_cons_succ, List.getD_nil, Bool.true_and, Bool.and_true, incr, decide_true, Nat.zero_le, Nat.le_refl, eq_int, ne_int, nn_non, nn_int, nn_str, nn_bl, nn_tup, nn_lst, nn_ref, x_tt, x_tf, x_ft, x_ff, up_no, seqK_lst, seqK_tup, seqD_lst, seqD_tup, ↓ok_err, ↓go_er, ↓go_never, ↓ok_mkS, ↓ok_mkS0, ↓ok_prop, List.dropLast_cons₂, List.dropLast_nil, mod_int hj]
      exact h _ _ (Int.emod_nonneg _ (by omega)) (Int.emod_lt_of_pos _ hj) h3 h4
    · rintro d l s ⟨hle, num, x, m1, rfl, h1, h2, h3, h4⟩
      have hle2 : l.length < 5 := hle
      have e5 : 5 - l.length = (5 - (l.length + 1)) + 1 := by omega
      have e6 : (2 : Int) ^ (50 * (5 - l.length)) = 2 ^ (50 * (5 - (l.length + 1))) * 1125899906842624 := by
        rw [e5, Nat.mul_add, Int.pow_add]; rfl
      have e7 : num * 1125899906842624 < 2 ^ (50 * (5 - l.length)) := by rw [e6]; exact Int.mul_lt_mul_of_pos_right h2 (by decide)
      have e8 : (2 : Int) ^ (50 * (5 - (l.length + 1))) ≤ 2 ^ 250 := by exact_mod_cast Nat.pow_le_pow_right (show 0 < 2 by decide) (show 50 * (5 - (l.length + 1)) ≤ 250 by omega)
      have h2' : num < 2 ^ (50 * (5 - (l.length + 1))) := h2
      have l1 : num.natAbs.log2 < 250 := log_of h1 (Int.lt_of_lt_of_le h2' e8) (by decide)
      have l2 : (1125899906842624 : Int).natAbs.log2 < 51 := by decide
      simp (maxSteps := 2000000) only [↓go_seq, ↓go_next, ↓go_cont, ↓go_break, ↓go_retN, ↓go_ret, ↓go_if, ↓go_drop, ↓go_asg, ↓to_V, ↓to_tup, ↓to_cons, ↓to_nil, ↓ok_c, ↓ok_dv, ↓ok_op, ↓ok_un, ↓ok_nil, ↓ok_cons, ↓ok_tup, ↓ok_lst, ↓ok_tru, ↓ok_test, ↓ok_notB, ↓ok_andB, ↓ok_orB, ↓ok_ifE, ↓ok_notV, ↓ok_fn, ↓ok_cb, ↓ok_cm, ↓ok_var, ↓ok_slot, look_slot, look_dv, lookDv_int, lookDv_str, lookDv_bl, lookDv_non, lookDv_tup, lookDv_lst, lookDv_scr, lookDv_ty, lookDv_cls, ↓ok_lstN, push_def, ↓go_asgN, ↓to_N0, ↓ok_settle, ↓ok_store, ↓ok_opN, ↓ok_cn, ↓ok_mut, ↓go_setIx, list_slot, put_slot, ↓ok_fld, ↓go_setF, ↓ok_mt, ↓ok_mk, ↓go_for, ↓ok_rng1, ↓ok_rng2, ↓ok_enum, ↓ok_zip, ↓ok_no, ↓ok_sl, ↓ok_ite, ↓go_ite, ↓ok_ok, ↓ok_stuck, ↓go_stuck, startL, List.map_cons, List.map_nil, List.length_cons, List.length_nil, List.replicate, List.append_nil, List.nil_append, List.cons_append, List.getElem?_cons_zero, List.getElem?_cons_succ, List.set_cons_zero, List.set_cons_succ, Option.bind_some, lookAll, List.getElem?_nil, Nat.zero_add, Nat.reduceAdd, Nat.reduceSub, Nat.reduceLT, true_and, and_true, List.dropLast_singleton, List.length_singleton, if_true, if_false, Bool.not_true, Bool.not_false, Option.some.injEq, exists_eq_left', exists_eq_left, reduceCtorEq, Bool.false_eq_true, ite_true, ite_false, Option.isSome_some, ixL, ixT, ixS, at0, at1, at2, cmpI_int, add_int, sub_int, int_int, neg_int, is_non, Dv.int.injEq, Dv.bl.injEq, Dv.ref.injEq, Dv.tup.injEq, Dv.lst.injEq, Ob.lst.injEq, Ob.ins.injEq, decide_eq_true_eq, Prod.mk.injEq, and_assoc, exists_and_left, List.cons.injEq, ix30, ix31, ix32, szOk_le, Nat.reduceLeDiff, p59, p30, p6, p12, p18, ↓ok_src, ↓src_lst, ↓src_tup, ↓src_str, ↓src_scr, ↓ok_prt, ↓ok_lcN, ↓ok_sortSet, ↓ok_sortK0, ↓to_Ng, ↓go_par, ↓ok_dmNil, ↓ok_dmV, ↓ok_dmN, ↓to_stIs0, ↓to_stIs, ↓to_stIv, ↓to_stIn, ↓ok_andV, ↓ok_orV, tru_bl, tru_lst, ↓ok_chain, wipe0, wipe1, unwipe0, unwipe1, noOwn0, noOwn1, unown_no, unown_val, ↓ok_yes, List.getD_cons_zero, List.getD_cons_succ, List.getD_nil, Bool.true_and, Bool.and_true, incr, decide_true, Nat.zero_le, Nat.le_refl, eq_int, ne_int, nn_non, nn_int, nn_str, nn_bl, nn_tup, nn_lst, nn_ref, x_tt, x_tf, x_ft, x_ff, up_no, seqK_lst, seqK_tup, seqD_lst, seqD_tup, ↓ok_err, ↓go_er, ↓go_never, ↓ok_mkS, ↓ok_mkS0, ↓ok_prop, List.dropLast_cons₂, List.dropLast_nil]
      refine ⟨_, mul_int (by omega), take_t (k := k + l.length) h3 (by decide) (by decide) fun r m2 r1 r2 r3 r4 => ⟨_, add_int, by omega, _, _, _, rfl, by omega, ?_, r3, h4.trans r4⟩⟩
      rw [e6]
      omega
theorem nat_log {n k : Nat} (h : n < 2 ^ k) (hk : 0 < k) : (n : Int).natAbs.log2 < k := lap_log (by simpa using h) hk
theorem of_t {m : List Ob} {n k : Nat} {ds : List Dv} {Q : Dv → List Ob → Prop} (hb : Bag m n (k + 1)) (h0 : ds ≠ []) (hl : ds.length < 2 ^ 60) (h : ∀ d m', d ∈ ds → Bag m' n k → Keeps m n m' → Q d m') : Ca (c__law_of [.ref n, .lst ds] m) Q := by
  have hp : 0 < ds.length := List.length_pos_iff.mpr h0
  refine ca_def rfl ?_
  unfold B__law_of
  simp (maxSteps := 2000000) only [↓go_seq, ↓go_next, ↓go_cont, ↓go_break, ↓go_retN, ↓go_ret, ↓go_if, ↓go_drop, ↓go_asg, ↓to_V, ↓to_tup, ↓to_cons, ↓to_nil, ↓ok_c, ↓ok_dv, ↓ok_op, ↓ok_un, ↓ok_nil, ↓ok_cons, ↓ok_tup, ↓ok_lst, ↓ok_tru, ↓ok_test, ↓ok_notB, ↓ok_andB, ↓ok_orB, ↓ok_ifE, ↓ok_notV, ↓ok_fn, ↓ok_cb, ↓ok_cm, ↓ok_var, ↓ok_slot, look_slot, look_dv, lookDv_int, lookDv_str, lookDv_bl, lookDv_non, lookDv_tup, lookDv_lst, lookDv_scr, lookDv_ty, lookDv_cls, ↓ok_lstN, push_def, ↓go_asgN, ↓to_N0, ↓ok_settle, ↓ok_store, ↓ok_opN, ↓ok_cn, ↓ok_mut, ↓go_setIx, list_slot, put_slot, ↓ok_fld, ↓go_setF, ↓ok_mt, ↓ok_mk, ↓go_for, ↓ok_rng1, ↓ok_rng2, ↓ok_enum, ↓ok_zip, ↓ok_no, ↓ok_sl, ↓ok_ite, ↓go_ite, ↓ok_ok, ↓ok_stuck, ↓go_stuck, startL, List.map_cons, List.map_nil, List.length_cons, List.length_nil, List.replicate, List.append_nil, List.nil_append, List.cons_append, List.getElem?_cons_zero, List.getElem?_cons_succ, List.set_cons_zero, List.set_cons_succ, Option.bind_some, lookAll, List.getElem?_nil, Nat.zero_add, Nat.reduceAdd, Nat.reduceSub, Nat.reduceLT, true_and, and_true, List.dropLast_singleton, List.length_singleton, if_true, if_false, Bool.not_true, Bool.not_false, Option.some.injEq, exists_eq_left', exists_eq_left, reduceCtorEq, Bool.false_eq_true, ite_true, ite_false, Option.isSome_some, ixL, ixT, ixS, at0, at1, at2, cmpI_int, add_int, sub_int, int_int, neg_int, is_non, Dv.int.injEq, Dv.bl.injEq, Dv.ref.injEq, Dv.tup.injEq, Dv.lst.injEq, Ob.lst.injEq, Ob.ins.injEq, decide_eq_true_eq, Prod.mk.injEq, and_assoc, exists_and_left, List.cons.injEq, ix30, ix31, ix32, szOk_le, Nat.reduceLeDiff, p59, p30, p6, p12, p18, ↓ok_src, ↓src_lst, ↓src_tup, ↓src_str, ↓src_scr, ↓ok_prt, ↓ok_lcN, ↓ok_sortSet, ↓ok_sortK0, ↓to_Ng, ↓go_par, ↓ok_dmNil, ↓ok_dmV, ↓ok_dmN, ↓to_stIs0, ↓to_stIs, ↓to_stIv, ↓to_stIn, ↓ok_andV, ↓ok_orV, tru_bl, tru_lst, ↓ok_chain, wipe0, wipe1, unwipe0, unwipe1, noOwn0, noOwn1, unown_no, unown_val, ↓ok_yes, List.getD_cons_zero, List.getD_cons_succ, List.getD_nil, Bool.true_and, Bool.and_true, incr, decide_true, Nat.zero_le, Nat.le_refl, eq_int, ne_int, nn_non, nn_int, nn_str, nn_bl, nn_tup, nn_lst, nn_ref, x_tt, x_tf, x_ft, x_ff, up_no, seqK_lst, seqK_tup, seqD_lst, seqD_tup, ↓ok_err, ↓go_er, ↓go_never, ↓ok_mkS, ↓ok_mkS0, ↓ok_prop, List.dropLast_cons₂, List.dropLast_nil, fLen]
  refine take_t hb (by omega) (Nat.lt_of_lt_of_le (nat_log hl (by decide)) (by decide)) fun r m' r1 r2 r3 r4 => ?_
  obtain ⟨i, rfl⟩ := Int.eq_ofNat_of_zero_le r1
  have hi : i < ds.length := by omega
  exact ⟨_, at_nat hi, h _ _ (List.getElem_mem hi) r3 r4⟩
theorem ofs_t {m : List Ob} {n k : Nat} {x : Str} {Q : Dv → List Ob → Prop} (hb : Bag m n (k + 1)) (h0 : 0 < x.length) (hl : x.length < 1000) (h : ∀ c m', c ∈ x.cps.toList → Bag m' n k → Keeps m n m' → Q (.str ⟨#[c]⟩) m') : Ca (c__law_of [.ref n, .str x] m) Q := by
  refine ca_def rfl ?_
  have hs : szOk x.length = true := decide_eq_true (by omega)
  unfold B__law_of
  simp (maxSteps := 2000000) only [↓go_seq, ↓go_next, ↓go_cont, ↓go_break, ↓go_retN, ↓go_ret, ↓go_if, ↓go_drop, ↓go_asg, ↓to_V, ↓to_tup, ↓to_cons, ↓to_nil, ↓ok_c, ↓ok_dv, ↓ok_op, ↓ok_un, ↓ok_nil, ↓ok_cons, ↓ok_tup, ↓ok_lst, ↓ok_tru, ↓ok_test, ↓ok_notB, ↓ok_andB, ↓ok_orB, ↓ok_ifE, ↓ok_notV, ↓ok_fn, ↓ok_cb, ↓ok_cm, ↓ok_var, ↓ok_slot, look_slot, look_dv, lookDv_int, lookDv_str, lookDv_bl, lookDv_non, lookDv_tup, lookDv_lst, lookDv_scr, lookDv_ty, lookDv_cls, ↓ok_lstN, push_def, ↓go_asgN, ↓to_N0, ↓ok_settle, ↓ok_store, ↓ok_opN, ↓ok_cn, ↓ok_mut, ↓go_setIx, list_slot, put_slot, ↓ok_fld, ↓go_setF, ↓ok_mt, ↓ok_mk, ↓go_for, ↓ok_rng1, ↓ok_rng2, ↓ok_enum, ↓ok_zip, ↓ok_no, ↓ok_sl, ↓ok_ite, ↓go_ite, ↓ok_ok, ↓ok_stuck, ↓go_stuck, startL, List.map_cons, List.map_nil, List.length_cons, List.length_nil, List.replicate, List.append_nil, List.nil_append, List.cons_append, List.getElem?_cons_zero, List.getElem?_cons_succ, List.set_cons_zero, List.set_cons_succ, Option.bind_some, lookAll, List.getElem?_nil, Nat.zero_add, Nat.reduceAdd, Nat.reduceSub, Nat.reduceLT, true_and, and_true, List.dropLast_singleton, List.length_singleton, if_true, if_false, Bool.not_true, Bool.not_false, Option.some.injEq, exists_eq_left', exists_eq_left, reduceCtorEq, Bool.false_eq_true, ite_true, ite_false, Option.isSome_some, ixL, ixT, ixS, at0, at1, at2, cmpI_int, add_int, sub_int, int_int, neg_int, is_non, Dv.int.injEq, Dv.bl.injEq, Dv.ref.injEq, Dv.tup.injEq, Dv.lst.injEq, Ob.lst.injEq, Ob.ins.injEq, decide_eq_true_eq, Prod.mk.injEq, and_assoc, exists_and_left, List.cons.injEq, ix30, ix31, ix32, szOk_le, Nat.reduceLeDiff, p59, p30, p6, p12, p18, ↓ok_src, ↓src_lst, ↓src_tup, ↓src_str, ↓src_scr, ↓ok_prt, ↓ok_lcN, ↓ok_sortSet, ↓ok_sortK0, ↓to_Ng, ↓go_par, ↓ok_dmNil, ↓ok_dmV, ↓ok_dmN, ↓to_stIs0, ↓to_stIs, ↓to_stIv, ↓to_stIn, ↓ok_andV, ↓ok_orV, tru_bl, tru_lst, ↓ok_chain, wipe0, wipe1, unwipe0, unwipe1, noOwn0, noOwn1, unown_no, unown_val, ↓ok_yes, List.getD_cons_zero, List.getD_cons_succ, List.getD_nil, Bool.true_and, Bool.and_true, incr, decide_true, Nat.zero_le, Nat.le_refl, eq_int, ne_int, nn_non, nn_int, nn_str, nn_bl, nn_tup, nn_lst, nn_ref, x_tt, x_tf, x_ft, x_ff, up_no, seqK_lst, seqK_tup, seqD_lst, seqD_tup, ↓ok_err, ↓go_er, ↓go_never, ↓ok_mkS, ↓ok_mkS0, ↓ok_prop, List.dropLast_cons₂, List.dropLast_nil, fLen, hs, guard'_true]
  refine take_t hb (by omega) (Nat.lt_of_lt_of_le (nat_log (k := 10) (by omega) (by decide)) (by decide)) fun r m' r1 r2 r3 r4 => ?_
  obtain ⟨i, rfl⟩ := Int.eq_ofNat_of_zero_le r1
  have hlen : x.cps.toList.length = x.length := by rw [Array.length_toList]; rfl
  have hi : i < x.cps.toList.length := by omega
  refine ⟨_, ?_, h _ _ (List.getElem_mem hi) r3 r4⟩
  show (if szOk x.length = true then (atI x.cps.toList (i : Int)).map fun c => Dv.str ⟨#[c]⟩ else none) = _
  rw [if_pos hs, at_nat hi]
  rfl
/-- a value: a number or a text -/
inductive Vl : Dv → Prop
  | int {i : Int} : Vl (.int i)
  | str {x : Str} : PyData.canLay0 (.str x) = true → Vl (.str x)
theorem Vl.pn {d : Dv} (h : Vl d) {k : Nat} : Pn k d := by
  cases h with
  | int => exact .int
  | str h => exact .str h
theorem bagk {m : List Ob} {n a b : Nat} (h : Bag m n a) (e : a = b := by omega) : Bag m n b := e ▸ h
theorem value_t {m : List Ob} {n k : Nat} {Q : Dv → List Ob → Prop} (hb : Bag m n (k + 20)) (h : ∀ d m', Vl d → Bag m' n k → Keeps m n m' → Q d m') : Ca (c__law_value [.ref n] m) Q := by
  refine ca_def rfl ?_
  unfold B__law_value
  simp (maxSteps := 2000000) only [↓go_seq, ↓go_next, ↓go_cont, ↓go_break, ↓go_retN, ↓go_ret, ↓go_if, ↓go_drop, ↓go_asg, ↓to_V, ↓to_tup, ↓to_cons, ↓to_nil, ↓ok_c, ↓ok_dv, ↓ok_op, ↓ok_un, ↓ok_nil, ↓ok_cons, ↓ok_tup, ↓ok_lst, ↓ok_tru, ↓ok_test, ↓ok_notB, ↓ok_andB, ↓ok_orB, ↓ok_ifE, ↓ok_notV, ↓ok_fn, ↓ok_cb, ↓ok_cm, ↓ok_var, ↓ok_slot, look_slot, look_dv, lookDv_int, lookDv_str, lookDv_bl, lookDv_non, lookDv_tup, lookDv_lst, lookDv_scr, lookDv_ty, lookDv_cls, ↓ok_lstN, push_def, ↓go_asgN, ↓to_N0, ↓ok_settle, ↓ok_store, ↓ok_opN, ↓ok_cn, ↓ok_mut, ↓go_setIx, list_slot, put_slot, ↓ok_fld, ↓go_setF, ↓ok_mt, ↓ok_mk, ↓go_for, ↓ok_rng1, ↓ok_rng2, ↓ok_enum, ↓ok_zip, ↓ok_no, ↓ok_sl, ↓ok_ite, ↓go_ite, ↓ok_ok, ↓ok_stuck, ↓go_stuck, startL, List.map_cons, List.map_nil, List.length_cons, List.length_nil, List.replicate, List.append_nil, List.nil_append, List.cons_append, List.getElem?_cons_zero, List.getElem?_cons_succ, List.set_cons_zero, List.set_cons_succ, Option.bind_some, lookAll, List.getElem?_nil, Nat.zero_add, Nat.reduceAdd, Nat.reduceSub, Nat.reduceLT, true_and, and_true, List.dropLast_singleton, List.length_singleton, if_true, if_false, Bool.not_true, Bool.not_false, Option.some.injEq, exists_eq_left', exists_eq_left, reduceCtorEq, Bool.false_eq_true, ite_true, ite_false, Option.isSome_some, ixL, ixT, ixS, at0, at1, at2, cmpI_int, add_int, sub_int, int_int, neg_int, is_non, Dv.int.injEq, Dv.bl.injEq, Dv.ref.injEq, Dv.tup.injEq, Dv.lst.injEq, Ob.lst.injEq, Ob.ins.injEq, decide_eq_true_eq, Prod.mk.injEq, and_assoc, exists_and_left, List.cons.injEq, ix30, ix31, ix32, szOk_le, Nat.reduceLeDiff, p59, p30, p6, p12, p18, ↓ok_src, ↓src_lst, ↓src_tup, ↓src_str, ↓src_scr, ↓ok_prt, ↓ok_lcN, ↓ok_sortSet, ↓ok_sortK0, ↓to_Ng, ↓go_par, ↓ok_dmNil, ↓ok_dmV, ↓ok_dmN, ↓to_stIs0, ↓to_stIs, ↓to_stIv, ↓to_stIn, ↓ok_andV, ↓ok_orV, tru_bl, tru_lst, ↓ok_chain, wipe0, wipe1, unwipe0, unwipe1, noOwn0, noOwn1, unown_no, unown_val, ↓ok_yes, List.getD_cons_zero, List.getD_cons_succ, List.getD_nil, Bool.true_and, Bool.and_true, incr, decide_true, Nat.zero_le, Nat.le_refl, eq_int, ne_int, nn_non, nn_int, nn_str, nn_bl, nn_tup, nn_lst, nn_ref, x_tt, x_tf, x_ft, x_ff, up_no, seqK_lst, seqK_tup, seqD_lst, seqD_tup, ↓ok_err, ↓go_er, ↓go_never, ↓ok_mkS, ↓ok_mkS0, ↓ok_prop, List.dropLast_cons₂, List.dropLast_nil]
  refine take_t (k := k + 19) hb (by decide) (by decide) fun r m1 r1 r2 r3 r4 => ?_
  simp (maxSteps := 2000000) only [↓go_seq, ↓go_next, ↓go_cont, ↓go_break, ↓go_retN, ↓go_ret, ↓go_if, ↓go_drop, ↓go_asg, ↓to_V, ↓to_tup, ↓to_cons, ↓to_nil, ↓ok_c, ↓ok_dv, ↓ok_op, ↓ok_un, ↓ok_nil, ↓ok_cons, ↓ok_tup, ↓ok_lst, ↓ok_tru, ↓ok_test, ↓ok_notB, ↓ok_andB, ↓ok_orB, ↓ok_ifE, ↓ok_notV, ↓ok_fn, ↓ok_cb, ↓ok_cm, ↓ok_var, ↓ok_slot, look_slot, look_dv, lookDv_int, lookDv_str, lookDv_bl, lookDv_non, lookDv_tup, lookDv_lst, lookDv_scr, lookDv_ty, lookDv_cls, ↓ok_lstN, push_def, ↓go_asgN, ↓to_N0, ↓ok_settle, ↓ok_store, ↓ok_opN, ↓ok_cn, ↓ok_mut, ↓go_setIx, list_slot, put_slot, ↓ok_fld, ↓go_setF, ↓ok_mt, ↓ok_mk, ↓go_for, ↓ok_rng1, ↓ok_rng2, ↓ok_enum, ↓ok_zip, ↓ok_no, ↓ok_sl, ↓ok_ite, ↓go_ite, ↓ok_ok, ↓ok_stuck, ↓go_stuck, startL, List.map_cons, List.map_nil, List.length_cons, List.length_nil, List.replicate, List.append_nil, List.nil_append, List.cons_append, List.getElem?_cons_zero, List.getElem?_cons_succ, List.set_cons_zero, List.set_cons_succ, Option.bind_some, lookAll, List.getElem?_nil, Nat.zero_add, Nat.reduceAdd, Nat.reduceSub, Nat.reduceLT, true_and, and_true, List.dropLast_singleton, List.length_singleton, if_true, if_false, Bool.not_true, Bool.not_false, Option.some.injEq, exists_eq_left', exists_eq_left, reduceCtorEq, Bool.false_eq_true, ite_true, ite_false, Option.isSome_some, ixL, ixT, ixS, at0, at1, at2, cmpI_int, add_int, sub_int, int_int, neg_int, is_non, Dv.int.injEq, Dv.bl.injEq, Dv.ref.injEq, Dv.tup.injEq, Dv.lst.injEq, Ob.lst.injEq, Ob.ins.injEq, decide_eq_true_eq, Prod.mk.injEq, and_assoc, exists_and_left, List.cons.injEq, ix30, ix31, ix32, szOk_le, Nat.reduceLeDiff, p59, p30, p6, p12, p18, ↓ok_src, ↓src_lst, ↓src_tup, ↓src_str, ↓src_scr, ↓ok_prt, ↓ok_lcN, ↓ok_sortSet, ↓ok_sortK0, ↓to_Ng, ↓go_par, ↓ok_dmNil, ↓ok_dmV, ↓ok_dmN, ↓to_stIs0, ↓to_stIs, ↓to_stIv, ↓to_stIn, ↓ok_andV, ↓ok_orV, tru_bl, tru_lst, ↓ok_chain, wipe0, wipe1, unwipe0, unwipe1, noOwn0, noOwn1, unown_no, unown_val, ↓ok_yes, List.getD_cons_zero, List.getD_cons_succ, List.getD_nil, Bool.true_and, Bool.and_true, incr, decide_true, Nat.zero_le, Nat.le_refl, eq_int, ne_int, nn_non, nn_int, nn_str, nn_bl, nn_tup, nn_lst, nn_ref, x_tt, x_tf, x_ft, x_ff, up_no, seqK_lst, seqK_tup, seqD_lst, seqD_tup, ↓ok_err, ↓go_er, ↓go_never, ↓ok_mkS, ↓ok_mkS0, ↓ok_prop, List.dropLast_cons₂, List.dropLast_nil]
  split
  · refine take_t (k := k + 18) r3 (by decide) (by decide) fun q m2 q1 q2 q3 q4 => ?_
    simp (maxSteps := 2000000) only [↓go_seq, ↓go_next, ↓go_cont, ↓go_break, ↓go_retN, ↓go_ret, ↓go_if, ↓go_drop, ↓go_asg, ↓to_V, ↓to_tup, ↓to_cons, ↓to_nil, ↓ok_c, ↓ok_dv, ↓ok_op, ↓ok_un, ↓ok_nil, ↓ok_cons, ↓ok_tup, ↓ok_lst, ↓ok_tru, ↓ok_test, ↓ok_notB, ↓ok_andB, ↓ok_orB, ↓ok_ifE, ↓ok_notV, ↓ok_fn, ↓ok_cb, ↓ok_cm, ↓ok_var, ↓ok_slot, look_slot, look_dv, lookDv_int, lookDv_str, lookDv_bl, lookDv_non, lookDv_tup, lookDv_lst, lookDv_scr, lookDv_ty, lookDv_cls, ↓ok_lstN, push_def, ↓go_asgN, ↓to_N0, ↓ok_settle, ↓ok_store, ↓ok_opN, ↓ok_cn, ↓ok_mut, ↓go_setIx, list_slot, put_slot, ↓ok_fld, ↓go_setF, ↓ok_mt, ↓ok_mk, ↓go_for, ↓ok_rng1, ↓ok_rng2, ↓ok_enum, ↓ok_zip, ↓ok_no, ↓ok_sl, ↓ok_ite, ↓go_ite, ↓ok_ok, ↓ok_stuck, ↓go_stuck, startL, List.map_cons, List.map_nil, List.length_cons, List.length_nil, List.replicate, List.append_nil, List.nil_append, List.cons_append, List.getElem?_cons_zero, List.getElem?_cons_succ, List.set_cons_zero, List.set_cons_succ, Option.bind_some, lookAll, List.getElem?_nil, Nat.zero_add, Nat.reduceAdd, Nat.reduceSub, Nat.reduceLT, true_and, and_true, List.dropLast_singleton, List.length_singleton, if_true, if_false, Bool.not_true, Bool.not_false, Option.some.injEq, exists_eq_left', exists_eq_left, reduceCtorEq, Bool.false_eq_true, ite_true, ite_false, Option.isSome_some, ixL, ixT, ixS, at0, at1, at2, cmpI_int, add_int, sub_int, int_int, neg_int, is_non, Dv.int.injEq, Dv.bl.injEq, Dv.ref.injEq, Dv.tup.injEq, Dv.lst.injEq, Ob.lst.injEq, Ob.ins.injEq, decide_eq_true_eq, Prod.mk.injEq, and_assoc, exists_and_left, List.cons.injEq, ix30, ix31, ix32, szOk_le, Nat.reduceLeDiff, p59, p30, p6, p12, p18, ↓ok_src, ↓src_lst, ↓src_tup, ↓src_str, ↓src_scr, ↓ok_prt, ↓ok_lcN, ↓ok_sortSet, ↓ok_sortK0, ↓to_Ng, ↓go_par, ↓ok_dmNil, ↓ok_dmV, ↓ok_dmN, ↓to_stIs0, ↓to_stIs, ↓to_stIv, ↓to_stIn, ↓ok_andV, ↓ok_orV, tru_bl, tru_lst, ↓ok_chain, wipe0, wipe1, unwipe0, unwipe1, noOwn0, noOwn1, unown_no, unown_val, ↓ok_yes, List.getD_cons_zero, List.getD_cons_succ, List.getD_nil, Bool.true_and, Bool.and_true, incr, decide_true, Nat.zero_le, Nat.le_refl, eq_int, ne_int, nn_non, nn_int, nn_str, nn_bl, nn_tup, nn_lst, nn_ref, x_tt, x_tf, x_ft, x_ff, up_no, seqK_lst, seqK_tup, seqD_lst, seqD_tup, ↓ok_err, ↓go_er, ↓go_never, ↓ok_mkS, ↓ok_mkS0, ↓ok_prop, List.dropLast_cons₂, List.dropLast_nil]
    exact h _ _ .int (q3.mono (by omega)) (r4.trans q4)
  split
  · rw [mul2 (by decide)]
    simp (maxSteps := 2000000) only [↓go_seq, ↓go_next, ↓go_cont, ↓go_break, ↓go_retN, ↓go_ret, ↓go_if, ↓go_drop, ↓go_asg, ↓to_V, ↓to_tup, ↓to_cons, ↓to_nil, ↓ok_c, ↓ok_dv, ↓ok_op, ↓ok_un, ↓ok_nil, ↓ok_cons, ↓ok_tup, ↓ok_lst, ↓ok_tru, ↓ok_test, ↓ok_notB, ↓ok_andB, ↓ok_orB, ↓ok_ifE, ↓ok_notV, ↓ok_fn, ↓ok_cb, ↓ok_cm, ↓ok_var, ↓ok_slot, look_slot, look_dv, lookDv_int, lookDv_str, lookDv_bl, lookDv_non, lookDv_tup, lookDv_lst, lookDv_scr, lookDv_ty, lookDv_cls, ↓ok_lstN, push_def, ↓go_asgN, ↓to_N0, ↓ok_settle, ↓ok_store, ↓ok_opN, ↓ok_cn, ↓ok_mut, ↓go_setIx, list_slot, put_slot, ↓ok_fld, ↓go_setF, ↓ok_mt, ↓ok_mk, ↓go_for, ↓ok_rng1, ↓ok_rng2, ↓ok_enum, ↓ok_zip, ↓ok_no, ↓ok_sl, ↓ok_ite, ↓go_ite, ↓ok_ok, ↓ok_stuck, ↓go_stuck, startL, List.map_cons, List.map_nil, List.length_cons, List.length_nil, List.replicate, List.append_nil, List.nil_append, List.cons_append, List.getElem?_cons_zero, List.getElem?_cons_succ, List.set_cons_zero, List.set_cons_succ, Option.bind_some, lookAll, List.getElem?_nil, Nat.zero_add, Nat.reduceAdd, Nat.reduceSub, Nat.reduceLT, true_and, and_true, List.dropLast_singleton, List.length_singleton, if_true, if_false, Bool.not_true, Bool.not_false, Option.some.injEq, exists_eq_left', exists_eq_left, reduceCtorEq, Bool.false_eq_true, ite_true, ite_false, Option.isSome_some, ixL, ixT, ixS, at0, at1, at2, cmpI_int, add_int, sub_int, int_int, neg_int, is_non, Dv.int.injEq, Dv.bl.injEq, Dv.ref.injEq, Dv.tup.injEq, Dv.lst.injEq, Ob.lst.injEq, Ob.ins.injEq, decide_eq_true_eq, Prod.mk.injEq, and_assoc, exists_and_left, List.cons.injEq, ix30, ix31, ix32, szOk_le, Nat.reduceLeDiff, p59, p30, p6, p12, p18, ↓ok_src, ↓src_lst, ↓src_tup, ↓src_str, ↓src_scr, ↓ok_prt, ↓ok_lcN, ↓ok_sortSet, ↓ok_sortK0, ↓to_Ng, ↓go_par, ↓ok_dmNil, ↓ok_dmV, ↓ok_dmN, ↓to_stIs0, ↓to_stIs, ↓to_stIv, ↓to_stIn, ↓ok_andV, ↓ok_orV, tru_bl, tru_lst, ↓ok_chain, wipe0, wipe1, unwipe0, unwipe1, noOwn0, noOwn1, unown_no, unown_val, ↓ok_yes, List.getD_cons_zero, List.getD_cons_succ, List.getD_nil, Bool.true_and, Bool.and_true, incr, decide_true, Nat.zero_le, Nat.le_refl, eq_int, ne_int, nn_non, nn_int, nn_str, nn_bl, nn_tup, nn_lst, nn_ref, x_tt, x_tf, x_ft, x_ff, up_no, seqK_lst, seqK_tup, seqD_lst, seqD_tup, ↓ok_err, ↓go_er, ↓go_never, ↓ok_mkS, ↓ok_mkS0, ↓ok_prop, List.dropLast_cons₂, List.dropLast_nil]
    refine wide_t (k := k + 14) r3 (by decide) (by decide) fun q m2 q1 q2 q3 q4 => ?_
    simp (maxSteps := 2000000) only [↓go_seq, ↓go_next, ↓go_cont, ↓go_break, ↓go_retN, ↓go_ret, ↓go_if, ↓go_drop, ↓go_asg, ↓to_V, ↓to_tup, ↓to_cons, ↓to_nil, ↓ok_c, ↓ok_dv, ↓ok_op, ↓ok_un, ↓ok_nil, ↓ok_cons, ↓ok_tup, ↓ok_lst, ↓ok_tru, ↓ok_test, ↓ok_notB, ↓ok_andB, ↓ok_orB, ↓ok_ifE, ↓ok_notV, ↓ok_fn, ↓ok_cb, ↓ok_cm, ↓ok_var, ↓ok_slot, look_slot, look_dv, lookDv_int, lookDv_str, lookDv_bl, lookDv_non, lookDv_tup, lookDv_lst, lookDv_scr, lookDv_ty, lookDv_cls, ↓ok_lstN, push_def, ↓go_asgN, ↓to_N0, ↓ok_settle, ↓ok_store, ↓ok_opN, ↓ok_cn, ↓ok_mut, ↓go_setIx, list_slot, put_slot, ↓ok_fld, ↓go_setF, ↓ok_mt, ↓ok_mk, ↓go_for, ↓ok_rng1, ↓ok_rng2, ↓ok_enum, ↓ok_zip, ↓ok_no, ↓ok_sl, ↓ok_ite, ↓go_ite, ↓ok_ok, ↓ok_stuck, ↓go_stuck, startL, List.map_cons, List.map_nil, List.length_cons, List.length_nil, List.replicate, List.append_nil, List.nil_append, List.cons_append, List.getElem?_cons_zero, List.getElem?_cons_succ, List.set_cons_zero, List.set_cons_succ, Option.bind_some, lookAll, List.getElem?_nil, Nat.zero_add, Nat.reduceAdd, Nat.reduceSub, Nat.reduceLT, true_and, and_true, List.dropLast_singleton, List.length_singleton, if_true, if_false, Bool.not_true, Bool.not_false, Option.some.injEq, exists_eq_left', exists_eq_left, reduceCtorEq, Bool.false_eq_true, ite_true, ite_false, Option.isSome_some, ixL, ixT, ixS, at0, at1, at2, cmpI_int, add_int, sub_int, int_int, neg_int, is_non, Dv.int.injEq, Dv.bl.injEq, Dv.ref.injEq, Dv.tup.injEq, Dv.lst.injEq, Ob.lst.injEq, Ob.ins.injEq, decide_eq_true_eq, Prod.mk.injEq, and_assoc, exists_and_left, List.cons.injEq, ix30, ix31, ix32, szOk_le, Nat.reduceLeDiff, p59, p30, p6, p12, p18, ↓ok_src, ↓src_lst, ↓src_tup, ↓src_str, ↓src_scr, ↓ok_prt, ↓ok_lcN, ↓ok_sortSet, ↓ok_sortK0, ↓to_Ng, ↓go_par, ↓ok_dmNil, ↓ok_dmV, ↓ok_dmN, ↓to_stIs0, ↓to_stIs, ↓to_stIv, ↓to_stIn, ↓ok_andV, ↓ok_orV, tru_bl, tru_lst, ↓ok_chain, wipe0, wipe1, unwipe0, unwipe1, noOwn0, noOwn1, unown_no, unown_val, ↓ok_yes, List.getD_cons_zero, List.getD_cons_succ, List.getD_nil, Bool.true_and, Bool.and_true, incr, decide_true, Nat.zero_le, Nat.le_refl, eq_int, ne_int, nn_non, nn_int, nn_str, nn_bl, nn_tup, nn_lst, nn_ref, x_tt, x_tf, x_ft, x_ff, up_no, seqK_lst, seqK_tup, seqD_lst, seqD_tup, ↓ok_err, ↓go_er, ↓go_never, ↓ok_mkS, ↓ok_mkS0, ↓ok_prop, List.dropLast_cons₂, List.dropLast_nil]
    exact h _ _ .int (q3.mono (by omega)) (r4.trans q4)
  refine of_t (k := k + 18) r3 (by simp) (by simp) fun d m2 hd q3 q4 => ?_
  have key : ∃ j : Int, d = .int j ∧ 0 ≤ j ∧ j ≤ 9 := by
    simp only [List.mem_cons, List.not_mem_nil, or_false] at hd
    rcases hd with rfl | rfl | rfl | rfl <;> exact ⟨_, rfl, by decide, by decide⟩
  obtain ⟨j, rfl, j0, j9⟩ := key
  refine ⟨j, rfl, decide_eq_true (by omega), ?_⟩
  refine for_rule (fun l s => l.length ≤ 9 ∧ ∃ (x : Str) (y : Sl) (m3 : List Ob), s = ⟨[.val (.ref n), .val (.int r), .val (.str x), y], m3, []⟩ ∧ PyData.canLay0 (.str x) = true ∧ x.length + l.length ≤ 9 ∧ Bag m3 n (k + l.length) ∧ Keeps m n m3) (fun _ _ _ => rfl) ?_ ?_ _ _ ⟨by rw [rng_len]; omega, "", .no, m2, rfl, lay_nil, by rw [rng_len]; show 0 + _ ≤ 9; omega, q3.mono (by rw [rng_len]; omega), r4.trans q4⟩
  · rintro s ⟨_, x, y, m3, rfl, x1, x2, x3, x4⟩
    simp (maxSteps := 2000000) only [↓go_seq, ↓go_next, ↓go_cont, ↓go_break, ↓go_retN, ↓go_ret, ↓go_if, ↓go_drop, ↓go_asg, ↓to_V, ↓to_tup, ↓to_cons, ↓to_nil, ↓ok_c, ↓ok_dv, ↓ok_op, ↓ok_un, ↓ok_nil, ↓ok_cons, ↓ok_tup, ↓ok_lst, ↓ok_tru, ↓ok_test, ↓ok_notB, ↓ok_andB, ↓ok_orB, ↓ok_ifE, ↓ok_notV, ↓ok_fn, ↓ok_cb, ↓ok_cm, ↓ok_var, ↓ok_slot, look_slot, look_dv, lookDv_int, lookDv_str, lookDv_bl, lookDv_non, lookDv_tup, lookDv_lst, lookDv_scr, lookDv_ty, lookDv_cls, ↓ok_lstN, push_def, ↓go_asgN, ↓to_N0, ↓ok_settle, ↓ok_store, ↓ok_opN, ↓ok_cn, ↓ok_mut, ↓go_setIx, list_slot, put_slot, ↓ok_fld, ↓go_setF, ↓ok_mt, ↓ok_mk, ↓go_for, ↓ok_rng1, ↓ok_rng2, ↓ok_enum, ↓ok_zip, ↓ok_no, ↓ok_sl, ↓ok_ite, ↓go_ite, ↓ok_ok, ↓ok_stuck, ↓go_stuck, startL, List.map_cons, List.map_nil, List.length_cons, List.length_nil, List.replicate, List.append_nil, List.nil_append, List.cons_append, List.getElem?_cons_zero, List.getElem?_cons_succ, List.set_cons_zero, List.set_cons_succ, Option.bind_some, lookAll, List.getElem?_nil, Nat.zero_add, Nat.reduceAdd, Nat.reduceSub, Nat.reduceLT, true_and, and_true, List.dropLast_singleton, List.length_singleton, if_true, if_false, Bool.not_true, Bool.not_false, Option.some.injEq, exists_eq_left', exists_eq_left, reduceCtorEq, Bool.false_eq_true, ite_true, ite_false, Option.isSome_some, ixL, ixT, ixS, at0, at1, at2, cmpI_int, add_int, sub_int, int_int, neg_int, is_non, Dv.int.injEq, Dv.bl.injEq, Dv.ref.injEq, Dv.tup.injEq, Dv.lst.injEq, Ob.lst.injEq, Ob.ins.injEq, decide_eq_true_eq, Prod.mk.injEq, and_assoc, exists_and_left, List.cons.injEq, ix30, ix31, ix32, szOk_le, Nat.reduceLeDiff, p59, p30, p6, p12, p18, ↓ok_src, ↓src_lst, ↓src_tup, ↓src_str, ↓src_scr, ↓ok_prt, ↓ok_lcN, ↓ok_sortSet, ↓ok_sortK0, ↓to_Ng, ↓go_par, ↓ok_dmNil, ↓ok_dmV, ↓ok_dmN, ↓to_stIs0, ↓to_stIs, ↓to_stIv, ↓to_stIn, ↓ok_andV, ↓ok_orV, tru_bl, tru_lst, ↓ok_chain, wipe0, wipe1, unwipe0, unwipe1, noOwn0, noOwn1, unown_no, unown_val, ↓ok_yes, List.getD_cons_zero, List.getD_cons_succ, List.getD_nil, Bool.true_and, Bool.and_true, incr, decide_true, Nat.zero_le, Nat.le_refl, eq_int, ne_int, nn_non, nn_int, nn_str, nn_bl, nn_tup, nn_lst, nn_ref, x_tt, x_tf, x_ft, x_ff, up_no, seqK_lst, seqK_tup, seqD_lst, seqD_tup, ↓ok_err, ↓go_er, ↓go_never, ↓ok_mkS, ↓ok_mkS0, ↓ok_prop, List.dropLast_cons₂, List.dropLast_nil]
    exact h _ _ (.str x1) x3 x4
  · rintro d l s ⟨hle, x, y, m3, rfl, x1, x2, x3, x4⟩
    simp (maxSteps := 2000000) only [↓go_seq, ↓go_next, ↓go_cont, ↓go_break, ↓go_retN, ↓go_ret, ↓go_if, ↓go_drop, ↓go_asg, ↓to_V, ↓to_tup, ↓to_cons, ↓to_nil, ↓ok_c, ↓ok_dv, ↓ok_op, ↓ok_un, ↓ok_nil, ↓ok_cons, ↓ok_tup, ↓ok_lst, ↓ok_tru, ↓ok_test, ↓ok_notB, ↓ok_andB, ↓ok_orB, ↓ok_ifE, ↓ok_notV, ↓ok_fn, ↓ok_cb, ↓ok_cm, ↓ok_var, ↓ok_slot, look_slot, look_dv, lookDv_int, lookDv_str, lookDv_bl, lookDv_non, lookDv_tup, lookDv_lst, lookDv_scr, lookDv_ty, lookDv_cls, ↓ok_lstN, push_def, ↓go_asgN, ↓to_N0, ↓ok_settle, ↓ok_store, ↓ok_opN, ↓ok_cn, ↓ok_mut, ↓go_setIx, list_slot, put_slot, ↓ok_fld, ↓go_setF, ↓ok_mt, ↓ok_mk, ↓go_for, ↓ok_rng1, ↓ok_rng2, ↓ok_enum, ↓ok_zip, ↓ok_no, ↓ok_sl, ↓ok_ite, ↓go_ite, ↓ok_ok, ↓ok_stuck, ↓go_stuck, startL, List.map_cons, List.map_nil, List.length_cons, List.length_nil, List.replicate, List.append_nil, List.nil_append, List.cons_append, List.getElem?_cons_zero, List.getElem?_cons_succ, List.set_cons_zero, List.set_cons_succ, Option.bind_some, lookAll, List.getElem?_nil, Nat.zero_add, Nat.reduceAdd, Nat.reduceSub, Nat.reduceLT, true_and, and_true, List.dropLast_singleton, List.length_singleton, if_true, if_false, Bool.not_true, Bool.not_false, Option.some.injEq, exists_eq_left', exists_eq_left, reduceCtorEq, Bool.false_eq_true, ite_true, ite_false, Option.isSome_some, ixL, ixT, ixS, at0, at1, at2, cmpI_int, add_int, sub_int, int_int, neg_int, is_non, Dv.int.injEq, Dv.bl.injEq, Dv.ref.injEq, Dv.tup.injEq, Dv.lst.injEq, Ob.lst.injEq, Ob.ins.injEq, decide_eq_true_eq, Prod.mk.injEq, and_assoc, exists_and_left, List.cons.injEq, ix30, ix31, ix32, szOk_le, Nat.reduceLeDiff, p59, p30, p6, p12, p18, ↓ok_src, ↓src_lst, ↓src_tup, ↓src_str, ↓src_scr, ↓ok_prt, ↓ok_lcN, ↓ok_sortSet, ↓ok_sortK0, ↓to_Ng, ↓go_par, ↓ok_dmNil, ↓ok_dmV, ↓ok_dmN, ↓to_stIs0, ↓to_stIs, ↓to_stIv, ↓to_stIn, ↓ok_andV, ↓ok_orV, tru_bl, tru_lst, ↓ok_chain, wipe0, wipe1, unwipe0, unwipe1, noOwn0, noOwn1, unown_no, unown_val, ↓ok_yes, List.getD_cons_zero, List.getD_cons_succ, List.getD_nil, Bool.true_and, Bool.and_true, incr, decide_true, Nat.zero_le, Nat.le_refl, eq_int, ne_int, nn_non, nn_int, nn_str, nn_bl, nn_tup, nn_lst, nn_ref, x_tt, x_tf, x_ft, x_ff, up_no, seqK_lst, seqK_tup, seqD_lst, seqD_tup, ↓ok_err, ↓go_er, ↓go_never, ↓ok_mkS, ↓ok_mkS0, ↓ok_prop, List.dropLast_cons₂, List.dropLast_nil]
    have hle' : l.length + 1 ≤ 9 := hle
    have hL : PyData.canLay0 (.str "0123456789abcxyzABZ '-_=~.!") = true := by decide +kernel
    refine ofs_t (k := k + l.length) x3 (by decide +kernel) (by decide +kernel) fun c m4 hc g1 g2 => ⟨_, add_str ?_, by omega, _, _, _, rfl, lay_app x1 (lay_one (lay_str.mp hL c hc)), ?_, g1, x4.trans g2⟩
    · show x.length + 1 ≤ _
      have : x.length + (l.length + 1) ≤ 9 := x2
      omega
    · have : x.length + (l.length + 1) ≤ 9 := x2
      rw [len_app]
      show x.length + 1 + l.length ≤ 9
      omega
def absI (i : Int) : Int := if i < 0 then -i else i
theorem abs_int {i : Int} : fAbs [.int i] = some (.int (absI i)) := rfl
theorem bag_t {m : List Ob} {ns : List Int} {at_ : Nat} {Q : Dv → List Ob → Prop} (hat : at_ < 1000) (h : ∀ o, Bag (m ++ [o]) m.length (2 ^ 20) → Q (.ref m.length) (m ++ [o])) : Ca (c__law_bag [.scr ns, .int at_] m) Q := by
  refine ca_def rfl ?_
  have tail : ∀ a i : Int, 0 ≤ a → Q (.ref m.length) (m ++ [.lst [.int a, .int (i % 2305843009213693951 * 5 + 6691 * at_ + 3067), .int 0]]) := fun a i ha => by
    have q1 := Int.emod_nonneg i (show (2305843009213693951 : Int) ≠ 0 by decide)
    have q2 := Int.emod_lt_of_pos i (show (0 : Int) < 2305843009213693951 by decide)
    exact h _ ⟨a, i % 2305843009213693951 * 5 + 6691 * at_ + 3067, 0, by simp, ha, by omega, by omega, by decide, by decide⟩
  have g0 : (5 : Int).natAbs.log2 < 3 := by decide
  have g1 : ∀ i : Int, (i % 2305843009213693951).natAbs.log2 < 62 := fun i => by
    have q1 := Int.emod_nonneg i (show (2305843009213693951 : Int) ≠ 0 by decide)
    have q2 := Int.emod_lt_of_pos i (show (0 : Int) < 2305843009213693951 by decide)
    exact log_of q1 (by omega) (by decide)
  have g2 : (6691 : Int).natAbs.log2 < 13 := by decide
  have g3 : (at_ : Int).natAbs.log2 < 10 := nat_log (by omega) (by decide)
  have f1 : ∀ i : Int, fMul (.int (i % 2305843009213693951)) (.int 5) = some (.int (i % 2305843009213693951 * 5)) := fun i => mul_int (by have := g1 i; omega)
  have f2 : fMul (.int 6691) (.int at_) = some (.int (6691 * at_)) := mul_int (by omega)
  unfold B__law_bag
  simp (maxSteps := 2000000) only [↓go_seq, ↓go_next, ↓go_cont, ↓go_break, ↓go_retN, ↓go_ret, ↓go_if, ↓go_drop, ↓go_asg, ↓to_V, ↓to_tup, ↓to_cons, ↓to_nil, ↓ok_c, ↓ok_dv, ↓ok_op, ↓ok_un, ↓ok_nil, ↓ok_cons, ↓ok_tup, ↓ok_lst, ↓ok_tru, ↓ok_test, ↓ok_notB, ↓ok_andB, ↓ok_orB, ↓ok_ifE, ↓ok_notV, ↓ok_fn, ↓ok_cb, ↓ok_cm, ↓ok_var, ↓ok_slot, look_slot, look_dv, lookDv_int, lookDv_str, lookDv_bl, lookDv_non, lookDv_tup, lookDv_lst, lookDv_scr, lookDv_ty, lookDv_cls, ↓ok_lstN, push_def, ↓go_asgN, ↓to_N0, ↓ok_settle, ↓ok_store, ↓ok_opN, ↓ok_cn, ↓ok_mut, ↓go_setIx, list_slot, put_slot, ↓ok_fld, ↓go_setF, ↓ok_mt, ↓ok_mk, ↓go_for, ↓ok_rng1, ↓ok_rng2, ↓ok_enum, ↓ok_zip, ↓ok_no, ↓ok_sl, ↓ok_ite, ↓go_ite, ↓ok_ok, ↓ok_stuck, ↓go_stuck, startL, List.map_cons, List.map_nil, List.length_cons, List.length_nil, List.replicate, List.append_nil, List.nil_append, List.cons_append, List.getElem?_cons_zero, List.getElem?_cons_succ, List.set_cons_zero, List.set_cons_succ, Option.bind_some, lookAll, List.getElem?_nil, Nat.zero_add, Nat.reduceAdd, Nat.reduceSub, Nat.reduceLT, true_and, and_true, List.dropLast_singleton, List.length_singleton, if_true, if_false, Bool.not_true, Bool.not_false, Option.some.injEq, exists_eq_left', exists_eq_left, reduceCtorEq, Bool.false_eq_true, ite_true, ite_false, Option.isSome_some, ixL, ixT, ixS, at0, at1, at2, cmpI_int, add_int, sub_int, int_int, neg_int, is_non, Dv.int.injEq, Dv.bl.injEq, Dv.ref.injEq, Dv.tup.injEq, Dv.lst.injEq, Ob.lst.injEq, Ob.ins.injEq, decide_eq_true_eq, Prod.mk.injEq, and_assoc, exists_and_left, List.cons.injEq, ix30, ix31, ix32, szOk_le, Nat.reduceLeDiff, p59, p30, p6, p12, p18, ↓ok_src, ↓src_lst, ↓src_tup, ↓src_str, ↓src_scr, ↓ok_prt, ↓ok_lcN, ↓ok_sortSet, ↓ok_sortK0, ↓to_Ng, ↓go_par, ↓ok_dmNil, ↓ok_dmV, ↓ok_dmN, ↓to_stIs0, ↓to_stIs, ↓to_stIv, ↓to_stIn, ↓ok_andV, ↓ok_orV, tru_bl, tru_lst, ↓ok_chain, wipe0, wipe1, unwipe0, unwipe1, noOwn0, noOwn1, unown_no, unown_val, ↓ok_yes, List.getD_cons_zero, List.getD_cons_succ, List.getD_nil, Bool.true_and, Bool.and_true, incr, decide_true, Nat.zero_le, Nat.le_refl, eq_int, ne_int, nn_non, nn_int, nn_str, nn_bl, nn_tup, nn_lst, nn_ref, x_tt, x_tf, x_ft, x_ff, up_no, seqK_lst, seqK_tup, seqD_lst, seqD_tup, ↓ok_err, ↓go_er, ↓go_never, ↓ok_mkS, ↓ok_mkS0, ↓ok_prop, List.dropLast_cons₂, List.dropLast_nil, fLen, f2]
  have fin : ∀ i : Int, 0 ≤ absI i := fun i => by unfold absI; split <;> omega
  split
  · rename_i hlt
    rw [at_nat (show at_ < ns.length by omega)]
    simp (maxSteps := 2000000) only [↓go_seq, ↓go_next, ↓go_cont, ↓go_break, ↓go_retN, ↓go_ret, ↓go_if, ↓go_drop, ↓go_asg, ↓to_V, ↓to_tup, ↓to_cons, ↓to_nil, ↓ok_c, ↓ok_dv, ↓ok_op, ↓ok_un, ↓ok_nil, ↓ok_cons, ↓ok_tup, ↓ok_lst, ↓ok_tru, ↓ok_test, ↓ok_notB, ↓ok_andB, ↓ok_orB, ↓ok_ifE, ↓ok_notV, ↓ok_fn, ↓ok_cb, ↓ok_cm, ↓ok_var, ↓ok_slot, look_slot, look_dv, lookDv_int, lookDv_str, lookDv_bl, lookDv_non, lookDv_tup, lookDv_lst, lookDv_scr, lookDv_ty, lookDv_cls, ↓ok_lstN, push_def, ↓go_asgN, ↓to_N0, ↓ok_settle, ↓ok_store, ↓ok_opN, ↓ok_cn, ↓ok_mut, ↓go_setIx, list_slot, put_slot, ↓ok_fld, ↓go_setF, ↓ok_mt, ↓ok_mk, ↓go_for, ↓ok_rng1, ↓ok_rng2, ↓ok_enum, ↓ok_zip, ↓ok_no, ↓ok_sl, ↓ok_ite, ↓go_ite, ↓ok_ok, ↓ok_stuck, ↓go_stuck, startL, List.map_cons, List.map_nil, List.length_cons, List.length_nil, List.replicate, List.append_nil, List.nil_append, List.cons_append, List.getElem?_cons_zero, List.getElem?_cons_succ, List.set_cons_zero, List.set_cons_succ, Option.bind_some, lookAll, List.getElem?_nil, Nat.zero_add, Nat.reduceAdd, Nat.reduceSub, Nat.reduceLT, true_and, and_true, List.dropLast_singleton, List.length_singleton, if_true, if_false, Bool.not_true, Bool.not_false, Option.some.injEq, exists_eq_left', exists_eq_left, reduceCtorEq, Bool.false_eq_true, ite_true, ite_false, Option.isSome_some, ixL, ixT, ixS, at0, at1, at2, cmpI_int, add_int, sub_int, int_int, neg_int, is_non, Dv.int.injEq, Dv.bl.injEq, Dv.ref.injEq, Dv.tup.injEq, Dv.lst.injEq, Ob.lst.injEq, Ob.ins.injEq, decide_eq_true_eq, Prod.mk.injEq, and_assoc, exists_and_left, List.cons.injEq, ix30, ix31, ix32, szOk_le, Nat.reduceLeDiff, p59, p30, p6, p12, p18, ↓ok_src, ↓src_lst, ↓src_tup, ↓src_str, ↓src_scr, ↓ok_prt, ↓ok_lcN, ↓ok_sortSet, ↓ok_sortK0, ↓to_Ng, ↓go_par, ↓ok_dmNil, ↓ok_dmV, ↓ok_dmN, ↓to_stIs0, ↓to_stIs, ↓to_stIv, ↓to_stIn, ↓ok_andV, ↓ok_orV, tru_bl, tru_lst, ↓ok_chain, wipe0, wipe1, unwipe0, unwipe1, noOwn0, noOwn1, unown_no, unown_val, ↓ok_yes, List.getD_cons_zero, List.getD_cons_succ, List.getD_nil, Bool.true_and, Bool.and_true, incr, decide_true, Nat.zero_le, Nat.le_refl, eq_int, ne_int, nn_non, nn_int, nn_str, nn_bl, nn_tup, nn_lst, nn_ref, x_tt, x_tf, x_ft, x_ff, up_no, seqK_lst, seqK_tup, seqD_lst, seqD_tup, ↓ok_err, ↓go_er, ↓go_never, ↓ok_mkS, ↓ok_mkS0, ↓ok_prop, List.dropLast_cons₂, List.dropLast_nil, Option.map_some, abs_int]
    split
    · exact ⟨_, mod_int (by decide), _, f1 _, _, add_int, _, add_int, tail _ _ (fin _)⟩
    · exact ⟨_, mod_int (by decide), _, f1 _, _, add_int, _, add_int, tail _ _ (by decide)⟩
  · simp (maxSteps := 2000000) only [↓go_seq, ↓go_next, ↓go_cont, ↓go_break, ↓go_retN, ↓go_ret, ↓go_if, ↓go_drop, ↓go_asg, ↓to_V, ↓to_tup, ↓to_cons, ↓to_nil, ↓ok_c, ↓ok_dv, ↓ok_op, ↓ok_un, ↓ok_nil, ↓ok_cons, ↓ok_tup, ↓ok_lst, ↓ok_tru, ↓ok_test, ↓ok_notB, ↓ok_andB, ↓ok_orB, ↓ok_ifE, ↓ok_notV, ↓ok_fn, ↓ok_cb, ↓ok_cm, ↓ok_var, ↓ok_slot, look_slot, look_dv, lookDv_int, lookDv_str, lookDv_bl, lookDv_non, lookDv_tup, lookDv_lst, lookDv_scr, lookDv_ty, lookDv_cls, ↓ok_lstN, push_def, ↓go_asgN, ↓to_N0, ↓ok_settle, ↓ok_store, ↓ok_opN, ↓ok_cn, ↓ok_mut, ↓go_setIx, list_slot, put_slot, ↓ok_fld, ↓go_setF, ↓ok_mt, ↓ok_mk, ↓go_for, ↓ok_rng1, ↓ok_rng2, ↓ok_enum, ↓ok_zip, ↓ok_no, ↓ok_sl, ↓ok_ite, ↓go_ite, ↓ok_ok, ↓ok_stuck, ↓go_stuck, startL, List.map_cons, List.map_nil, List.length_cons, List.length_nil, List.replicate, List.append_nil, List.nil_append, List.cons_append, List.getElem?_cons_zero, List.getElem?_cons_succ, List.set_cons_zero, List.set_cons_succ, Option.bind_some, lookAll, List.getElem?_nil, Nat.zero_add, Nat.reduceAdd, Nat.reduceSub, Nat.reduceLT, true_and, and_true, List.dropLast_singleton, List.length_singleton, if_true, if_false, Bool.not_true, Bool.not_false, Option.some.injEq, exists_eq_left', exists_eq_left, reduceCtorEq, Bool.false_eq_true, ite_true, ite_false, Option.isSome_some, ixL, ixT, ixS, at0, at1, at2, cmpI_int, add_int, sub_int, int_int, neg_int, is_non, Dv.int.injEq, Dv.bl.injEq, Dv.ref.injEq, Dv.tup.injEq, Dv.lst.injEq, Ob.lst.injEq, Ob.ins.injEq, decide_eq_true_eq, Prod.mk.injEq, and_assoc, exists_and_left, List.cons.injEq, ix30, ix31, ix32, szOk_le, Nat.reduceLeDiff, p59, p30, p6, p12, p18, ↓ok_src, ↓src_lst, ↓src_tup, ↓src_str, ↓src_scr, ↓ok_prt, ↓ok_lcN, ↓ok_sortSet, ↓ok_sortK0, ↓to_Ng, ↓go_par, ↓ok_dmNil, ↓ok_dmV, ↓ok_dmN, ↓to_stIs0, ↓to_stIs, ↓to_stIv, ↓to_stIn, ↓ok_andV, ↓ok_orV, tru_bl, tru_lst, ↓ok_chain, wipe0, wipe1, unwipe0, unwipe1, noOwn0, noOwn1, unown_no, unown_val, ↓ok_yes, List.getD_cons_zero, List.getD_cons_succ, List.getD_nil, Bool.true_and, Bool.and_true, incr, decide_true, Nat.zero_le, Nat.le_refl, eq_int, ne_int, nn_non, nn_int, nn_str, nn_bl, nn_tup, nn_lst, nn_ref, x_tt, x_tf, x_ft, x_ff, up_no, seqK_lst, seqK_tup, seqD_lst, seqD_tup, ↓ok_err, ↓go_er, ↓go_never, ↓ok_mkS, ↓ok_mkS0, ↓ok_prop, List.dropLast_cons₂, List.dropLast_nil, abs_int]
    split
    · exact ⟨_, mod_int (by decide), _, f1 _, _, add_int, _, add_int, tail _ _ (fin _)⟩
    · exact ⟨_, mod_int (by decide), _, f1 _, _, add_int, _, add_int, tail _ _ (by decide)⟩
theorem day_t {m : List Ob} {n k : Nat} {Q : Dv → List Ob → Prop} (hb : Bag m n (k + 10)) (h : ∀ (r : Int) m', Bag m' n k → Keeps m n m' → Q (.int r) m') : Ca (c__law_day [.ref n] m) Q := by
  refine ca_def rfl ?_
  unfold B__law_day
  simp (maxSteps := 2000000) only [↓go_seq, ↓go_next, ↓go_cont, ↓go_break, ↓go_retN, ↓go_ret, ↓go_if, ↓go_drop, ↓go_asg, ↓to_V, ↓to_tup, ↓to_cons, ↓to_nil, ↓ok_c, ↓ok_dv, ↓ok_op, ↓ok_un, ↓ok_nil, ↓ok_cons, ↓ok_tup, ↓ok_lst, ↓ok_tru, ↓ok_test, ↓ok_notB, ↓ok_andB, ↓ok_orB, ↓ok_ifE, ↓ok_notV, ↓ok_fn, ↓ok_cb, ↓ok_cm, ↓ok_var, ↓ok_slot, look_slot, look_dv, lookDv_int, lookDv_str, lookDv_bl, lookDv_non, lookDv_tup, lookDv_lst, lookDv_scr, lookDv_ty, lookDv_cls, ↓ok_lstN, push_def, ↓go_asgN, ↓to_N0, ↓ok_settle, ↓ok_store, ↓ok_opN, ↓ok_cn, ↓ok_mut, ↓go_setIx, list_slot, put_slot, ↓ok_fld, ↓go_setF, ↓ok_mt, ↓ok_mk, ↓go_for, ↓ok_rng1, ↓ok_rng2, ↓ok_enum, ↓ok_zip, ↓ok_no, ↓ok_sl, ↓ok_ite, ↓go_ite, ↓ok_ok, ↓ok_stuck, ↓go_stuck, startL, List.map_cons, List.map_nil, List.length_cons, List.length_nil, List.replicate, List.append_nil, List.nil_append, List.cons_append, List.getElem?_cons_zero, List.getElem?_cons_succ, List.set_cons_zero, List.set_cons_succ, Option.bind_some, lookAll, List.getElem?_nil, Nat.zero_add, Nat.reduceAdd, Nat.reduceSub, Nat.reduceLT, true_and, and_true, List.dropLast_singleton, List.length_singleton, if_true, if_false, Bool.not_true, Bool.not_false, Option.some.injEq, exists_eq_left', exists_eq_left, reduceCtorEq, Bool.false_eq_true, ite_true, ite_false, Option.isSome_some, ixL, ixT, ixS, at0, at1, at2, cmpI_int, add_int, sub_int, int_int, neg_int, is_non, Dv.int.injEq, Dv.bl.injEq, Dv.ref.injEq, Dv.tup.injEq, Dv.lst.injEq, Ob.lst.injEq, Ob.ins.injEq, decide_eq_true_eq, Prod.mk.injEq, and_assoc, exists_and_left, List.cons.injEq, ix30, ix31, ix32, szOk_le, Nat.reduceLeDiff, p59, p30, p6, p12, p18, ↓ok_src, ↓src_lst, ↓src_tup, ↓src_str, ↓src_scr, ↓ok_prt, ↓ok_lcN, ↓ok_sortSet, ↓ok_sortK0, ↓to_Ng, ↓go_par, ↓ok_dmNil, ↓ok_dmV, ↓ok_dmN, ↓to_stIs0, ↓to_stIs, ↓to_stIv, ↓to_stIn, ↓ok_andV, ↓ok_orV, tru_bl, tru_lst, ↓ok_chain, wipe0, wipe1, unwipe0, unwipe1, noOwn0, noOwn1, unown_no, unown_val, ↓ok_yes, List.getD_cons_zero, List.getD_cons_succ, List.getD_nil, Bool.true_and, Bool.and_true, incr, decide_true, Nat.zero_le, Nat.le_refl, eq_int, ne_int, nn_non, nn_int, nn_str, nn_bl, nn_tup, nn_lst, nn_ref, x_tt, x_tf, x_ft, x_ff, up_no, seqK_lst, seqK_tup, seqD_lst, seqD_tup, ↓ok_err, ↓go_er, ↓go_never, ↓ok_mkS, ↓ok_mkS0, ↓ok_prop, List.dropLast_cons₂, List.dropLast_nil]
  refine of_t (k := k + 9) hb (by simp) (by simp) fun d m1 hd b1 k1 => ?_
  have key : ∃ j : Int, d = .int j ∧ 0 ≤ j ∧ j ≤ 10 ^ 59 := by
    simp only [List.mem_cons, List.not_mem_nil, or_false] at hd
    rcases hd with rfl | rfl | rfl | rfl | rfl | rfl <;> exact ⟨_, rfl, by decide, by decide⟩
  obtain ⟨j, rfl, j0, j1⟩ := key
  have l1 : j.natAbs.log2 < 200 := log_of j0 (by omega) (by decide)
  have l2 : (2 * j + 1).natAbs.log2 < 200 := log_of (by omega) (by omega) (by decide)
  refine ⟨_, mul2 (Nat.lt_trans l1 (by decide)), _, add_int, wide_t (k := k + 4) b1 (by omega) (Nat.lt_trans l2 (by decide)) fun r m2 r1 r2 b2 k2 => ⟨_, sub_int, h _ _ (b2.mono (by omega)) (k1.trans k2)⟩⟩
end DD

namespace DD
open PySem L2
theorem app_lst {xs ys : List Dv} (h : xs.length + ys.length ≤ 16777216) : fAdd (.lst xs) (.lst ys) = some (.lst (xs ++ ys)) := guard_t h
/-! the errors made -/
theorem ct_EmptyRow_first : ctOf xflds "EmptyRow" "first" = true := by decide +kernel
theorem ct_EmptyRow_end : ctOf xflds "EmptyRow" "end" = true := by decide +kernel
theorem ct_EmptyStretch_first : ctOf xflds "EmptyStretch" "first" = true := by decide +kernel
theorem ct_EmptyStretch_last : ctOf xflds "EmptyStretch" "last" = true := by decide +kernel
theorem ct_Unordered_index : ctOf xflds "Unordered" "index" = true := by decide +kernel
theorem ct_Clash_earlier : ctOf xflds "Clash" "earlier" = true := by decide +kernel
theorem ct_Clash_later : ctOf xflds "Clash" "later" = true := by decide +kernel
theorem ct_BadLine_number : ctOf xflds "BadLine" "number" = true := by decide +kernel
theorem ct_TooMany_most : ctOf xflds "TooMany" "most" = true := by decide +kernel
theorem ct_TooFar_number : ctOf xflds "TooFar" "number" = true := by decide +kernel
theorem ct_NoDay_number : ctOf xflds "NoDay" "number" = true := by decide +kernel
theorem ct_OtherEnds_ends : ctOf xflds "OtherEnds" "ends" = true := by decide +kernel
theorem ct_NotAllowed_word : ctOf xflds "NotAllowed" "word" = true := by decide +kernel
theorem ct_Unknown_word : ctOf xflds "Unknown" "word" = true := by decide +kernel
theorem ct_Twice_number : ctOf xflds "Twice" "number" = true := by decide +kernel
theorem ct_TwoRows_earlier : ctOf xflds "TwoRows" "earlier" = true := by decide +kernel
theorem ct_TwoRows_later : ctOf xflds "TwoRows" "later" = true := by decide +kernel
theorem ct_BadTurns_turns : ctOf xflds "BadTurns" "turns" = true := by decide +kernel
theorem ct_Refused_index : ctOf xflds "Refused" "index" = true := by decide +kernel
theorem ct_Refused_name : ctOf xflds "Refused" "name" = true := by decide +kernel
theorem ct_Refused_why : ctOf xflds "Refused" "why" = true := by decide +kernel
theorem mk_EmptyRow {m : List Ob} {a0 a1 : Dv} {Q : Dv → List Ob → Prop} (h : ∀ m', Ext m m' → XAt m' m.length "EmptyRow" [("end", a1), ("first", a0)] → Q .non m') : Ca (c_EmptyRow_init [.ref m.length, a0, a1] (m ++ [.exn "EmptyRow" none])) Q := by
  refine ca_def rfl ?_
  unfold B_EmptyRow_init
  simp (maxSteps := 2000000) only [↓go_seq, ↓go_next, ↓go_cont, ↓go_break, ↓go_retN, ↓go_ret, ↓go_if, ↓go_drop, ↓go_asg, ↓to_V, ↓to_tup, ↓to_cons, ↓to_nil, ↓ok_c, ↓ok_dv, ↓ok_op, ↓ok_un, ↓ok_nil, ↓ok_cons, ↓ok_tup, ↓ok_lst, ↓ok_tru, ↓ok_test, ↓ok_notB, ↓ok_andB, ↓ok_orB, ↓ok_ifE, ↓ok_notV, ↓ok_fn, ↓ok_cb, ↓ok_cm, ↓ok_var, ↓ok_slot, look_slot, look_dv, lookDv_int, lookDv_str, lookDv_bl, lookDv_non, lookDv_tup, lookDv_lst, lookDv_scr, lookDv_ty, lookDv_cls, ↓ok_lstN, push_def, ↓go_asgN, ↓to_N0, ↓ok_settle, ↓ok_store, ↓ok_opN, ↓ok_cn, ↓ok_mut, ↓go_setIx, list_slot, put_slot, ↓ok_fld, ↓go_setF, ↓ok_mt, ↓ok_mk, ↓go_for, ↓ok_rng1, ↓ok_rng2, ↓ok_enum, ↓ok_zip, ↓ok_no, ↓ok_sl, ↓ok_ite, ↓go_ite, ↓ok_ok, ↓ok_stuck, ↓go_stuck, startL, List.map_cons, List.map_nil, List.length_cons, List.length_nil, List.replicate, List.append_nil, List.nil_append, List.cons_append, List.getElem?_cons_zero, List.getElem?_cons_succ, List.set_cons_zero, List.set_cons_succ, Option.bind_some, lookAll, List.getElem?_nil, Nat.zero_add, Nat.reduceAdd, Nat.reduceSub, Nat.reduceLT, true_and, and_true, List.dropLast_singleton, List.length_singleton, if_true, if_false, Bool.not_true, Bool.not_false, Option.some.injEq, exists_eq_left', exists_eq_left, reduceCtorEq, Bool.false_eq_true, ite_true, ite_false, Option.isSome_some, ixL, ixT, ixS, at0, at1, at2, cmpI_int, add_int, sub_int, int_int, neg_int, is_non, Dv.int.injEq, Dv.bl.injEq, Dv.ref.injEq, Dv.tup.injEq, Dv.lst.injEq, Ob.lst.injEq, Ob.ins.injEq, decide_eq_true_eq, Prod.mk.injEq, and_assoc, exists_and_left, List.cons.injEq, ix30, ix31, ix32, szOk_le, Nat.reduceLeDiff, p59, p30, p6, p12, p18, ↓ok_src, ↓src_lst, ↓src_tup, ↓src_str, ↓src_scr, ↓ok_prt, ↓ok_lcN, ↓ok_sortSet, ↓ok_sortK0, ↓to_Ng, ↓go_par, ↓ok_dmNil, ↓ok_dmV, ↓ok_dmN, ↓to_stIs0, ↓to_stIs, ↓to_stIv, ↓to_stIn, ↓ok_andV, ↓ok_orV, tru_bl, tru_lst, ↓ok_chain, wipe0, wipe1, unwipe0, unwipe1, noOwn0, noOwn1, unown_no, unown_val, ↓ok_yes, List.getD_cons_zero, List.getD_cons_succ, List.getD_nil, Bool.true_and, Bool.and_true, incr, decide_true, Nat.zero_le, Nat.le_refl, eq_int, ne_int, nn_non, nn_int, nn_str, nn_bl, nn_tup, nn_lst, nn_ref, x_tt, x_tf, x_ft, x_ff, up_no, seqK_lst, seqK_tup, seqD_lst, seqD_tup, ↓ok_err, ↓go_er, ↓go_never, ↓ok_mkS, ↓ok_mkS0, ↓ok_prop, List.dropLast_cons₂, List.dropLast_nil, ↓go_setX, end0, end1, xset0, xset1, Ob.exn.injEq, ct_EmptyRow_first, ct_EmptyRow_end]
  exact h _ Ext.app app_exn
theorem mk_EmptyStretch {m : List Ob} {a0 a1 : Dv} {Q : Dv → List Ob → Prop} (h : ∀ m', Ext m m' → XAt m' m.length "EmptyStretch" [("last", a1), ("first", a0)] → Q .non m') : Ca (c_EmptyStretch_init [.ref m.length, a0, a1] (m ++ [.exn "EmptyStretch" none])) Q := by
  refine ca_def rfl ?_
  unfold B_EmptyStretch_init
  simp (maxSteps := 2000000) only [↓go_seq, ↓go_next, ↓go_cont, ↓go_break, ↓go_retN, ↓go_ret, ↓go_if, ↓go_drop, ↓go_asg, ↓to_V, ↓to_tup, ↓to_cons, ↓to_nil, ↓ok_c, ↓ok_dv, ↓ok_op, ↓ok_un, ↓ok_nil, ↓ok_cons, ↓ok_tup, ↓ok_lst, ↓ok_tru, ↓ok_test, ↓ok_notB, ↓ok_andB, ↓ok_orB, ↓ok_ifE, ↓ok_notV, ↓ok_fn, ↓ok_cb, ↓ok_cm, ↓ok_var, ↓ok_slot, look_slot, look_dv, lookDv_int, lookDv_str, lookDv_bl, lookDv_non, lookDv_tup, lookDv_lst, lookDv_scr, lookDv_ty, lookDv_cls, ↓ok_lstN, push_def, ↓go_asgN, ↓to_N0, ↓ok_settle, ↓ok_store, ↓ok_opN, ↓ok_cn, ↓ok_mut, ↓go_setIx, list_slot, put_slot, ↓ok_fld, ↓go_setF, ↓ok_mt, ↓ok_mk, ↓go_for, ↓ok_rng1, ↓ok_rng2, ↓ok_enum, ↓ok_zip, ↓ok_no, ↓ok_sl, ↓ok_ite, ↓go_ite, ↓ok_ok, ↓ok_stuck, ↓go_stuck, startL, List.map_cons, List.map_nil, List.length_cons, List.length_nil, List.replicate, List.append_nil, List.nil_append, List.cons_append, List.getElem?_cons_zero, List.getElem?_cons_succ, List.set_cons_zero, List.set_cons_succ, Option.bind_some, lookAll, List.getElem?_nil, Nat.zero_add, Nat.reduceAdd, Nat.reduceSub, Nat.reduceLT, true_and, and_true, List.dropLast_singleton, List.length_singleton, if_true, if_false, Bool.not_true, Bool.not_false, Option.some.injEq, exists_eq_left', exists_eq_left, reduceCtorEq, Bool.false_eq_true, ite_true, ite_false, Option.isSome_some, ixL, ixT, ixS, at0, at1, at2, cmpI_int, add_int, sub_int, int_int, neg_int, is_non, Dv.int.injEq, Dv.bl.injEq, Dv.ref.injEq, Dv.tup.injEq, Dv.lst.injEq, Ob.lst.injEq, Ob.ins.injEq, decide_eq_true_eq, Prod.mk.injEq, and_assoc, exists_and_left, List.cons.injEq, ix30, ix31, ix32, szOk_le, Nat.reduceLeDiff, p59, p30, p6, p12, p18, ↓ok_src, ↓src_lst, ↓src_tup, ↓src_str, ↓src_scr, ↓ok_prt, ↓ok_lcN, ↓ok_sortSet, ↓ok_sortK0, ↓to_Ng, ↓go_par, ↓ok_dmNil, ↓ok_dmV, ↓ok_dmN, ↓to_stIs0, ↓to_stIs, ↓to_stIv, ↓to_stIn, ↓ok_andV, ↓ok_orV, tru_bl, tru_lst, ↓ok_chain, wipe0, wipe1, unwipe0, unwipe1, noOwn0, noOwn1, unown_no, unown_val, ↓ok_yes, List.getD_cons_zero, List.getD_cons_succ, List.getD_nil, Bool.true_and, Bool.and_true, incr, decide_true, Nat.zero_le, Nat.le_refl, eq_int, ne_int, nn_non, nn_int, nn_str, nn_bl, nn_tup, nn_lst, nn_ref, x_tt, x_tf, x_ft, x_ff, up_no, seqK_lst, seqK_tup, seqD_lst, seqD_tup, ↓ok_err, ↓go_er, ↓go_never, ↓ok_mkS, ↓ok_mkS0, ↓ok_prop, List.dropLast_cons₂, List.dropLast_nil, ↓go_setX, end0, end1, xset0, xset1, Ob.exn.injEq, ct_EmptyStretch_first, ct_EmptyStretch_last]
  exact h _ Ext.app app_exn
theorem mk_Unordered {m : List Ob} {a0 : Dv} {Q : Dv → List Ob → Prop} (h : ∀ m', Ext m m' → XAt m' m.length "Unordered" [("index", a0)] → Q .non m') : Ca (c_Unordered_init [.ref m.length, a0] (m ++ [.exn "Unordered" none])) Q := by
  refine ca_def rfl ?_
  unfold B_Unordered_init
  simp (maxSteps := 2000000) only [↓go_seq, ↓go_next, ↓go_cont, ↓go_break, ↓go_retN, ↓go_ret, ↓go_if, ↓go_drop, ↓go_asg, ↓to_V, ↓to_tup, ↓to_cons, ↓to_nil, ↓ok_c, ↓ok_dv, ↓ok_op, ↓ok_un, ↓ok_nil, ↓ok_cons, ↓ok_tup, ↓ok_lst, ↓ok_tru, ↓ok_test, ↓ok_notB, ↓ok_andB, ↓ok_orB, ↓ok_ifE, ↓ok_notV, ↓ok_fn, ↓ok_cb, ↓ok_cm, ↓ok_var, ↓ok_slot, look_slot, look_dv, lookDv_int, lookDv_str, lookDv_bl, lookDv_non, lookDv_tup, lookDv_lst, lookDv_scr, lookDv_ty, lookDv_cls, ↓ok_lstN, push_def, ↓go_asgN, ↓to_N0, ↓ok_settle, ↓ok_store, ↓ok_opN, ↓ok_cn, ↓ok_mut, ↓go_setIx, list_slot, put_slot, ↓ok_fld, ↓go_setF, ↓ok_mt, ↓ok_mk, ↓go_for, ↓ok_rng1, ↓ok_rng2, ↓ok_enum, ↓ok_zip, ↓ok_no, ↓ok_sl, ↓ok_ite, ↓go_ite, ↓ok_ok, ↓ok_stuck, ↓go_stuck, startL, List.map_cons, List.map_nil, List.length_cons, List.length_nil, List.replicate, List.append_nil, List.nil_append, List.cons_append, List.getElem?_cons_zero, List.getElem?_cons_succ, List.set_cons_zero, List.set_cons_succ, Option.bind_some, lookAll, List.getElem?_nil, Nat.zero_add, Nat.reduceAdd, Nat.reduceSub, Nat.reduceLT, true_and, and_true, List.dropLast_singleton, List.length_singleton, if_true, if_false, Bool.not_true, Bool.not_false, Option.some.injEq, exists_eq_left', exists_eq_left, reduceCtorEq, Bool.false_eq_true, ite_true, ite_false, Option.isSome_some, ixL, ixT, ixS, at0, at1, at2, cmpI_int, add_int, sub_int, int_int, neg_int, is_non, Dv.int.injEq, Dv.bl.injEq, Dv.ref.injEq, Dv.tup.injEq, Dv.lst.injEq, Ob.lst.injEq, Ob.ins.injEq, decide_eq_true_eq, Prod.mk.injEq, and_assoc, exists_and_left, List.cons.injEq, ix30, ix31, ix32, szOk_le, Nat.reduceLeDiff, p59, p30, p6, p12, p18, ↓ok_src, ↓src_lst, ↓src_tup, ↓src_str, ↓src_scr, ↓ok_prt, ↓ok_lcN, ↓ok_sortSet, ↓ok_sortK0, ↓to_Ng, ↓go_par, ↓ok_dmNil, ↓ok_dmV, ↓ok_dmN, ↓to_stIs0, ↓to_stIs, ↓to_stIv, ↓to_stIn, ↓ok_andV, ↓ok_orV, tru_bl, tru_lst, ↓ok_chain, wipe0, wipe1, unwipe0, unwipe1, noOwn0, noOwn1, unown_no, unown_val, ↓ok_yes, List.getD_cons_zero, List.getD_cons_succ, List.getD_nil, Bool.true_and, Bool.and_true, incr, decide_true, Nat.zero_le, Nat.le_refl, eq_int, ne_int, nn_non, nn_int, nn_str, nn_bl, nn_tup, nn_lst, nn_ref, x_tt, x_tf, x_ft, x_ff, up_no, seqK_lst, seqK_tup, seqD_lst, seqD_tup, ↓ok_err, ↓go_er, ↓go_never, ↓ok_mkS, ↓ok_mkS0, ↓ok_prop, List.dropLast_cons₂, List.dropLast_nil, ↓go_setX, end0, end1, xset0, xset1, Ob.exn.injEq, ct_Unordered_index]
  exact h _ Ext.app app_exn
theorem mk_Clash {m : List Ob} {a0 a1 : Dv} {Q : Dv → List Ob → Prop} (h : ∀ m', Ext m m' → XAt m' m.length "Clash" [("later", a1), ("earlier", a0)] → Q .non m') : Ca (c_Clash_init [.ref m.length, a0, a1] (m ++ [.exn "Clash" none])) Q := by
  refine ca_def rfl ?_
  unfold B_Clash_init
  simp (maxSteps := 2000000) only [↓go_seq, ↓go_next, ↓go_cont, ↓go_break, ↓go_retN, ↓go_ret, ↓go_if, ↓go_drop, ↓go_asg, ↓to_V, ↓to_tup, ↓to_cons, ↓to_nil, ↓ok_c, ↓ok_dv, ↓ok_op, ↓ok_un, ↓ok_nil, ↓ok_cons, ↓ok_tup, ↓ok_lst, ↓ok_tru, ↓ok_test, ↓ok_notB, ↓ok_andB, ↓ok_orB, ↓ok_ifE, ↓ok_notV, ↓ok_fn, ↓ok_cb, ↓ok_cm, ↓ok_var, ↓ok_slot, look_slot, look_dv, lookDv_int, lookDv_str, lookDv_bl, lookDv_non, lookDv_tup, lookDv_lst, lookDv_scr, lookDv_ty, lookDv_cls, ↓ok_lstN, push_def, ↓go_asgN, ↓to_N0, ↓ok_settle, ↓ok_store, ↓ok_opN, ↓ok_cn, ↓ok_mut, ↓go_setIx, list_slot, put_slot, ↓ok_fld, ↓go_setF, ↓ok_mt, ↓ok_mk, ↓go_for, ↓ok_rng1, ↓ok_rng2, ↓ok_enum, ↓ok_zip, ↓ok_no, ↓ok_sl, ↓ok_ite, ↓go_ite, ↓ok_ok, ↓ok_stuck, ↓go_stuck, startL, List.map_cons, List.map_nil, List.length_cons, List.length_nil, List.replicate, List.append_nil, List.nil_append, List.cons_append, List.getElem?_cons_zero, List.getElem?_cons_succ, List.set_cons_zero, List.set_cons_succ, Option.bind_some, lookAll, List.getElem?_nil, Nat.zero_add, Nat.reduceAdd, Nat.reduceSub, Nat.reduceLT, true_and, and_true, List.dropLast_singleton, List.length_singleton, if_true, if_false, Bool.not_true, Bool.not_false, Option.some.injEq, exists_eq_left', exists_eq_left, reduceCtorEq, Bool.false_eq_true, ite_true, ite_false, Option.isSome_some, ixL, ixT, ixS, at0, at1, at2, cmpI_int, add_int, sub_int, int_int, neg_int, is_non, Dv.int.injEq, Dv.bl.injEq, Dv.ref.injEq, Dv.tup.injEq, Dv.lst.injEq, Ob.lst.injEq, Ob.ins.injEq, decide_eq_true_eq, Prod.mk.injEq, and_assoc, exists_and_left, List.cons.injEq, ix30, ix31, ix32, szOk_le, Nat.reduceLeDiff, p59, p30, p6, p12, p18, ↓ok_src, ↓src_lst, ↓src_tup, ↓src_str, ↓src_scr, ↓ok_prt, ↓ok_lcN, ↓ok_sortSet, ↓ok_sortK0, ↓to_Ng, ↓go_par, ↓ok_dmNil, ↓ok_dmV, ↓ok_dmN, ↓to_stIs0, ↓to_stIs, ↓to_stIv, ↓to_stIn, ↓ok_andV, ↓ok_orV, tru_bl, tru_lst, ↓ok_chain, wipe0, wipe1, unwipe0, unwipe1, noOwn0, noOwn1, unown_no, unown_val, ↓ok_yes, List.getD_cons_zero, List.getD_cons_succ, List.getD_nil, Bool.true_and, Bool.and_true, incr, decide_true, Nat.zero_le, Nat.le_refl, eq_int, ne_int, nn_non, nn_int, nn_str, nn_bl, nn_tup, nn_lst, nn_ref, x_tt, x_tf, x_ft, x_ff, up_no, seqK_lst, seqK_tup, seqD_lst, seqD_tup, ↓ok_err, ↓go_er, ↓go_never, ↓ok_mkS, ↓ok_mkS0, ↓ok_prop, List.dropLast_cons₂, List.dropLast_nil, ↓go_setX, end0, end1, xset0, xset1, Ob.exn.injEq, ct_Clash_earlier, ct_Clash_later]
  exact h _ Ext.app app_exn
theorem mk_BadLine {m : List Ob} {a0 : Dv} {Q : Dv → List Ob → Prop} (h : ∀ m', Ext m m' → XAt m' m.length "BadLine" [("number", a0)] → Q .non m') : Ca (c_BadLine_init [.ref m.length, a0] (m ++ [.exn "BadLine" none])) Q := by
  refine ca_def rfl ?_
  unfold B_BadLine_init
  simp (maxSteps := 2000000) only [↓go_seq, ↓go_next, ↓go_cont, ↓go_break, ↓go_retN, ↓go_ret, ↓go_if, ↓go_drop, ↓go_asg, ↓to_V, ↓to_tup, ↓to_cons, ↓to_nil, ↓ok_c, ↓ok_dv, ↓ok_op, ↓ok_un, ↓ok_nil, ↓ok_cons, ↓ok_tup, ↓ok_lst, ↓ok_tru, ↓ok_test, ↓ok_notB, ↓ok_andB, ↓ok_orB, ↓ok_ifE, ↓ok_notV, ↓ok_fn, ↓ok_cb, ↓ok_cm, ↓ok_var, ↓ok_slot, look_slot, look_dv, lookDv_int, lookDv_str, lookDv_bl, lookDv_non, lookDv_tup, lookDv_lst, lookDv_scr, lookDv_ty, lookDv_cls, ↓ok_lstN, push_def, ↓go_asgN, ↓to_N0, ↓ok_settle, ↓ok_store, ↓ok_opN, ↓ok_cn, ↓ok_mut, ↓go_setIx, list_slot, put_slot, ↓ok_fld, ↓go_setF, ↓ok_mt, ↓ok_mk, ↓go_for, ↓ok_rng1, ↓ok_rng2, ↓ok_enum, ↓ok_zip, ↓ok_no, ↓ok_sl, ↓ok_ite, ↓go_ite, ↓ok_ok, ↓ok_stuck, ↓go_stuck, startL, List.map_cons, List.map_nil, List.length_cons, List.length_nil, List.replicate, List.append_nil, List.nil_append, List.cons_append, List.getElem?_cons_zero, List.getElem?_cons_succ, List.set_cons_zero, List.set_cons_succ, Option.bind_some, lookAll, List.getElem?_nil, Nat.zero_add, Nat.reduceAdd, Nat.reduceSub, Nat.reduceLT, true_and, and_true, List.dropLast_singleton, List.length_singleton, if_true, if_false, Bool.not_true, Bool.not_false, Option.some.injEq, exists_eq_left', exists_eq_left, reduceCtorEq, Bool.false_eq_true, ite_true, ite_false, Option.isSome_some, ixL, ixT, ixS, at0, at1, at2, cmpI_int, add_int, sub_int, int_int, neg_int, is_non, Dv.int.injEq, Dv.bl.injEq, Dv.ref.injEq, Dv.tup.injEq, Dv.lst.injEq, Ob.lst.injEq, Ob.ins.injEq, decide_eq_true_eq, Prod.mk.injEq, and_assoc, exists_and_left, List.cons.injEq, ix30, ix31, ix32, szOk_le, Nat.reduceLeDiff, p59, p30, p6, p12, p18, ↓ok_src, ↓src_lst, ↓src_tup, ↓src_str, ↓src_scr, ↓ok_prt, ↓ok_lcN, ↓ok_sortSet, ↓ok_sortK0, ↓to_Ng, ↓go_par, ↓ok_dmNil, ↓ok_dmV, ↓ok_dmN, ↓to_stIs0, ↓to_stIs, ↓to_stIv, ↓to_stIn, ↓ok_andV, ↓ok_orV, tru_bl, tru_lst, ↓ok_chain, wipe0, wipe1, unwipe0, unwipe1, noOwn0, noOwn1, unown_no, unown_val, ↓ok_yes, List.getD_cons_zero, List.getD_cons_succ, List.getD_nil, Bool.true_and, Bool.and_true, incr, decide_true, Nat.zero_le, Nat.le_refl, eq_int, ne_int, nn_non, nn_int, nn_str, nn_bl, nn_tup, nn_lst, nn_ref, x_tt, x_tf, x_ft, x_ff, up_no, seqK_lst, seqK_tup, seqD_lst, seqD_tup, ↓ok_err, ↓go_er, ↓go_never, ↓ok_mkS, ↓ok_mkS0, ↓ok_prop, List.dropLast_cons₂, List.dropLast_nil, ↓go_setX, end0, end1, xset0, xset1, Ob.exn.injEq, ct_BadLine_number]
  exact h _ Ext.app app_exn
theorem mk_TooMany {m : List Ob} {a0 : Dv} {Q : Dv → List Ob → Prop} (h : ∀ m', Ext m m' → XAt m' m.length "TooMany" [("most", a0)] → Q .non m') : Ca (c_TooMany_init [.ref m.length, a0] (m ++ [.exn "TooMany" none])) Q := by
  refine ca_def rfl ?_
  unfold B_TooMany_init
  simp (maxSteps := 2000000) only [↓go_seq, ↓go_next, ↓go_cont, ↓go_break, ↓go_retN, ↓go_ret, ↓go_if, ↓go_drop, ↓go_asg, ↓to_V, ↓to_tup, ↓to_cons, ↓to_nil, ↓ok_c, ↓ok_dv, ↓ok_op, ↓ok_un, ↓ok_nil, ↓ok_cons, ↓ok_tup, ↓ok_lst, ↓ok_tru, ↓ok_test, ↓ok_notB, ↓ok_andB, ↓ok_orB, ↓ok_ifE, ↓ok_notV, ↓ok_fn, ↓ok_cb, ↓ok_cm, ↓ok_var, ↓ok_slot, look_slot, look_dv, lookDv_int, lookDv_str, lookDv_bl, lookDv_non, lookDv_tup, lookDv_lst, lookDv_scr, lookDv_ty, lookDv_cls, ↓ok_lstN, push_def, ↓go_asgN, ↓to_N0, ↓ok_settle, ↓ok_store, ↓ok_opN, ↓ok_cn, ↓ok_mut, ↓go_setIx, list_slot, put_slot, ↓ok_fld, ↓go_setF, ↓ok_mt, ↓ok_mk, ↓go_for, ↓ok_rng1, ↓ok_rng2, ↓ok_enum, ↓ok_zip, ↓ok_no, ↓ok_sl, ↓ok_ite, ↓go_ite, ↓ok_ok, ↓ok_stuck, ↓go_stuck, startL, List.map_cons, List.map_nil, List.length_cons, List.length_nil, List.replicate, List.append_nil, List.nil_append, List.cons_append, List.getElem?_cons_zero, List.getElem?_cons_succ, List.set_cons_zero, List.set_cons_succ, Option.bind_some, lookAll, List.getElem?_nil, Nat.zero_add, Nat.reduceAdd, Nat.reduceSub, Nat.reduceLT, true_and, and_true, List.dropLast_singleton, List.length_singleton, if_true, if_false, Bool.not_true, Bool.not_false, Option.some.injEq, exists_eq_left', exists_eq_left, reduceCtorEq, Bool.false_eq_true, ite_true, ite_false, Option.isSome_some, ixL, ixT, ixS, at0, at1, at2, cmpI_int, add_int, sub_int, int_int, neg_int, is_non, Dv.int.injEq, Dv.bl.injEq, Dv.ref.injEq, Dv.tup.injEq, Dv.lst.injEq, Ob.lst.injEq, Ob.ins.injEq, decide_eq_true_eq, Prod.mk.injEq, and_assoc, exists_and_left, List.cons.injEq, ix30, ix31, ix32, szOk_le, Nat.reduceLeDiff, p59, p30, p6, p12, p18, ↓ok_src, ↓src_lst, ↓src_tup, ↓src_str, ↓src_scr, ↓ok_prt, ↓ok_lcN, ↓ok_sortSet, ↓ok_sortK0, ↓to_Ng, ↓go_par, ↓ok_dmNil, ↓ok_dmV, ↓ok_dmN, ↓to_stIs0, ↓to_stIs, ↓to_stIv, ↓to_stIn, ↓ok_andV, ↓ok_orV, tru_bl, tru_lst, ↓ok_chain, wipe0, wipe1, unwipe0, unwipe1, noOwn0, noOwn1, unown_no, unown_val, ↓ok_yes, List.getD_cons_zero, List.getD_cons_succ, List.getD_nil, Bool.true_and, Bool.and_true, incr, decide_true, Nat.zero_le, Nat.le_refl, eq_int, ne_int, nn_non, nn_int, nn_str, nn_bl, nn_tup, nn_lst, nn_ref, x_tt, x_tf, x_ft, x_ff, up_no, seqK_lst, seqK_tup, seqD_lst, seqD_tup, ↓ok_err, ↓go_er, ↓go_never, ↓ok_mkS, ↓ok_mkS0, ↓ok_prop, List.dropLast_cons₂, List.dropLast_nil, ↓go_setX, end0, end1, xset0, xset1, Ob.exn.injEq, ct_TooMany_most]
  exact h _ Ext.app app_exn
theorem mk_TooFar {m : List Ob} {a0 : Dv} {Q : Dv → List Ob → Prop} (h : ∀ m', Ext m m' → XAt m' m.length "TooFar" [("number", a0)] → Q .non m') : Ca (c_TooFar_init [.ref m.length, a0] (m ++ [.exn "TooFar" none])) Q := by
  refine ca_def rfl ?_
  unfold B_TooFar_init
  simp (maxSteps := 2000000) only [↓go_seq, ↓go_next, ↓go_cont, ↓go_break, ↓go_retN, ↓go_ret, ↓go_if, ↓go_drop, ↓go_asg, ↓to_V, ↓to_tup, ↓to_cons, ↓to_nil, ↓ok_c, ↓ok_dv, ↓ok_op, ↓ok_un, ↓ok_nil, ↓ok_cons, ↓ok_tup, ↓ok_lst, ↓ok_tru, ↓ok_test, ↓ok_notB, ↓ok_andB, ↓ok_orB, ↓ok_ifE, ↓ok_notV, ↓ok_fn, ↓ok_cb, ↓ok_cm, ↓ok_var, ↓ok_slot, look_slot, look_dv, lookDv_int, lookDv_str, lookDv_bl, lookDv_non, lookDv_tup, lookDv_lst, lookDv_scr, lookDv_ty, lookDv_cls, ↓ok_lstN, push_def, ↓go_asgN, ↓to_N0, ↓ok_settle, ↓ok_store, ↓ok_opN, ↓ok_cn, ↓ok_mut, ↓go_setIx, list_slot, put_slot, ↓ok_fld, ↓go_setF, ↓ok_mt, ↓ok_mk, ↓go_for, ↓ok_rng1, ↓ok_rng2, ↓ok_enum, ↓ok_zip, ↓ok_no, ↓ok_sl, ↓ok_ite, ↓go_ite, ↓ok_ok, ↓ok_stuck, ↓go_stuck, startL, List.map_cons, List.map_nil, List.length_cons, List.length_nil, List.replicate, List.append_nil, List.nil_append, List.cons_append, List.getElem?_cons_zero, List.getElem?_cons_succ, List.set_cons_zero, List.set_cons_succ, Option.bind_some, lookAll, List.getElem?_nil, Nat.zero_add, Nat.reduceAdd, Nat.reduceSub, Nat.reduceLT, true_and, and_true, List.dropLast_singleton, List.length_singleton, if_true, if_false, Bool.not_true, Bool.not_false, Option.some.injEq, exists_eq_left', exists_eq_left, reduceCtorEq, Bool.false_eq_true, ite_true, ite_false, Option.isSome_some, ixL, ixT, ixS, at0, at1, at2, cmpI_int, add_int, sub_int, int_int, neg_int, is_non, Dv.int.injEq, Dv.bl.injEq, Dv.ref.injEq, Dv.tup.injEq, Dv.lst.injEq, Ob.lst.injEq, Ob.ins.injEq, decide_eq_true_eq, Prod.mk.injEq, and_assoc, exists_and_left, List.cons.injEq, ix30, ix31, ix32, szOk_le, Nat.reduceLeDiff, p59, p30, p6, p12, p18, ↓ok_src, ↓src_lst, ↓src_tup, ↓src_str, ↓src_scr, ↓ok_prt, ↓ok_lcN, ↓ok_sortSet, ↓ok_sortK0, ↓to_Ng, ↓go_par, ↓ok_dmNil, ↓ok_dmV, ↓ok_dmN, ↓to_stIs0, ↓to_stIs, ↓to_stIv, ↓to_stIn, ↓ok_andV, ↓ok_orV, tru_bl, tru_lst, ↓ok_chain, wipe0, wipe1, unwipe0, unwipe1, noOwn0, noOwn1, unown_no, unown_val, ↓ok_yes, List.getD_cons_zero, List.getD_cons_succ, List.getD_nil, Bool.true_and, Bool.and_true, incr, decide_true, Nat.zero_le, Nat.le_refl, eq_int, ne_int, nn_non, nn_int, nn_str, nn_bl, nn_tup, nn_lst, nn_ref, x_tt, x_tf, x_ft, x_ff, up_no, seqK_lst, seqK_tup, seqD_lst, seqD_tup, ↓ok_err, ↓go_er, ↓go_never, ↓ok_mkS, ↓ok_mkS0, ↓ok_prop, List.dropLast_cons₂, List.dropLast_nil, ↓go_setX, end0, end1, xset0, xset1, Ob.exn.injEq, ct_TooFar_number]
  exact h _ Ext.app app_exn
theorem mk_NoDay {m : List Ob} {a0 : Dv} {Q : Dv → List Ob → Prop} (h : ∀ m', Ext m m' → XAt m' m.length "NoDay" [("number", a0)] → Q .non m') : Ca (c_NoDay_init [.ref m.length, a0] (m ++ [.exn "NoDay" none])) Q := by
  refine ca_def rfl ?_
  unfold B_NoDay_init
  simp (maxSteps := 2000000) only [↓go_seq, ↓go_next, ↓go_cont, ↓go_break, ↓go_retN, ↓go_ret, ↓go_if, ↓go_drop, ↓go_asg, ↓to_V, ↓to_tup, ↓to_cons, ↓to_nil, ↓ok_c, ↓ok_dv, ↓ok_op, ↓ok_un, ↓ok_nil, ↓ok_cons, ↓ok_tup, ↓ok_lst, ↓ok_tru, ↓ok_test, ↓ok_notB, ↓ok_andB, ↓ok_orB, ↓ok_ifE, ↓ok_notV, ↓ok_fn, ↓ok_cb, ↓ok_cm, ↓ok_var, ↓ok_slot, look_slot, look_dv, lookDv_int, lookDv_str, lookDv_bl, lookDv_non, lookDv_tup, lookDv_lst, lookDv_scr, lookDv_ty, lookDv_cls, ↓ok_lstN, push_def, ↓go_asgN, ↓to_N0, ↓ok_settle, ↓ok_store, ↓ok_opN, ↓ok_cn, ↓ok_mut, ↓go_setIx, list_slot, put_slot, ↓ok_fld, ↓go_setF, ↓ok_mt, ↓ok_mk, ↓go_for, ↓ok_rng1, ↓ok_rng2, ↓ok_enum, ↓ok_zip, ↓ok_no, ↓ok_sl, ↓ok_ite, ↓go_ite, ↓ok_ok, ↓ok_stuck, ↓go_stuck, startL, List.map_cons, List.map_nil, List.length_cons, List.length_nil, List.replicate, List.append_nil, List.nil_append, List.cons_append, List.getElem?_cons_zero, List.getElem?_cons_succ, List.set_cons_zero, List.set_cons_succ, Option.bind_some, lookAll, List.getElem?_nil, Nat.zero_add, Nat.reduceAdd, Nat.reduceSub, Nat.reduceLT, true_and, and_true, List.dropLast_singleton, List.length_singleton, if_true, if_false, Bool.not_true, Bool.not_false, Option.some.injEq, exists_eq_left', exists_eq_left, reduceCtorEq, Bool.false_eq_true, ite_true, ite_false, Option.isSome_some, ixL, ixT, ixS, at0, at1, at2, cmpI_int, add_int, sub_int, int_int, neg_int, is_non, Dv.int.injEq, Dv.bl.injEq, Dv.ref.injEq, Dv.tup.injEq, Dv.lst.injEq, Ob.lst.injEq, Ob.ins.injEq, decide_eq_true_eq, Prod.mk.injEq, and_assoc, exists_and_left, List.cons.injEq, ix30, ix31, ix32, szOk_le, Nat.reduceLeDiff, p59, p30, p6, p12, p18, ↓ok_src, ↓src_lst, ↓src_tup, ↓src_str, ↓src_scr, ↓ok_prt, ↓ok_lcN, ↓ok_sortSet, ↓ok_sortK0, ↓to_Ng, ↓go_par, ↓ok_dmNil, ↓ok_dmV, ↓ok_dmN, ↓to_stIs0, ↓to_stIs, ↓to_stIv, ↓to_stIn, ↓ok_andV, ↓ok_orV, tru_bl, tru_lst, ↓ok_chain, wipe0, wipe1, unwipe0, unwipe1, noOwn0, noOwn1, unown_no, unown_val, ↓ok_yes, List.getD_cons_zero, List.getD_cons_succ, List.getD_nil, Bool.true_and, Bool.and_true, incr, decide_true, Nat.zero_le, Nat.le_refl, eq_int, ne_int, nn_non, nn_int, nn_str, nn_bl, nn_tup, nn_lst, nn_ref, x_tt, x_tf, x_ft, x_ff, up_no, seqK_lst, seqK_tup, seqD_lst, seqD_tup, ↓ok_err, ↓go_er, ↓go_never, ↓ok_mkS, ↓ok_mkS0, ↓ok_prop, List.dropLast_cons₂, List.dropLast_nil, ↓go_setX, end0, end1, xset0, xset1, Ob.exn.injEq, ct_NoDay_number]
  exact h _ Ext.app app_exn
theorem mk_OtherEnds {m : List Ob} {a0 : Dv} {Q : Dv → List Ob → Prop} (h : ∀ m', Ext m m' → XAt m' m.length "OtherEnds" [("ends", a0)] → Q .non m') : Ca (c_OtherEnds_init [.ref m.length, a0] (m ++ [.exn "OtherEnds" none])) Q := by
  refine ca_def rfl ?_
  unfold B_OtherEnds_init
  simp (maxSteps := 2000000) only [↓go_seq, ↓go_next, ↓go_cont, ↓go_break, ↓go_retN, ↓go_ret, ↓go_if, ↓go_drop, ↓go_asg, ↓to_V, ↓to_tup, ↓to_cons, ↓to_nil, ↓ok_c, ↓ok_dv, ↓ok_op, ↓ok_un, ↓ok_nil, ↓ok_cons, ↓ok_tup, ↓ok_lst, ↓ok_tru, ↓ok_test, ↓ok_notB, ↓ok_andB, ↓ok_orB, ↓ok_ifE, ↓ok_notV, ↓ok_fn, ↓ok_cb, ↓ok_cm, ↓ok_var, ↓ok_slot, look_slot, look_dv, lookDv_int, lookDv_str, lookDv_bl, lookDv_non, lookDv_tup, lookDv_lst, lookDv_scr, lookDv_ty, lookDv_cls, ↓ok_lstN, push_def, ↓go_asgN, ↓to_N0, ↓ok_settle, ↓ok_store, ↓ok_opN, ↓ok_cn, ↓ok_mut, ↓go_setIx, list_slot, put_slot, ↓ok_fld, ↓go_setF, ↓ok_mt, ↓ok_mk, ↓go_for, ↓ok_rng1, ↓ok_rng2, ↓ok_enum, ↓ok_zip, ↓ok_no, ↓ok_sl, ↓ok_ite, ↓go_ite, ↓ok_ok, ↓ok_stuck, ↓go_stuck, startL, List.map_cons, List.map_nil, List.length_cons, List.length_nil, List.replicate, List.append_nil, List.nil_append, List.cons_append, List.getElem?_cons_zero, List.getElem?_cons_succ, List.set_cons_zero, List.set_cons_succ, Option.bind_some, lookAll, List.getElem?_nil, Nat.zero_add, Nat.reduceAdd, Nat.reduceSub, Nat.reduceLT, true_and, and_true, List.dropLast_singleton, List.length_singleton, if_true, if_false, Bool.not_true, Bool.not_false, Option.some.injEq, exists_eq_left', exists_eq_left, reduceCtorEq, Bool.false_eq_true, ite_true, ite_false, Option.isSome_some, ixL, ixT, ixS, at0, at1, at2, cmpI_int, add_int, sub_int, int_int, neg_int, is_non, Dv.int.injEq, Dv.bl.injEq, Dv.ref.injEq, Dv.tup.injEq, Dv.lst.injEq, Ob.lst.injEq, Ob.ins.injEq, decide_eq_true_eq, Prod.mk.injEq, and_assoc, exists_and_left, List.cons.injEq, ix30, ix31, ix32, szOk_le, Nat.reduceLeDiff, p59, p30, p6, p12, p18, ↓ok_src, ↓src_lst, ↓src_tup, ↓src_str, ↓src_scr, ↓ok_prt, ↓ok_lcN, ↓ok_sortSet, ↓ok_sortK0, ↓to_Ng, ↓go_par, ↓ok_dmNil, ↓ok_dmV, ↓ok_dmN, ↓to_stIs0, ↓to_stIs, ↓to_stIv, ↓to_stIn, ↓ok_andV, ↓ok_orV, tru_bl, tru_lst, ↓ok_chain, wipe0, wipe1, unwipe0, unwipe1, noOwn0, noOwn1, unown_no, unown_val, ↓ok_yes, List.getD_cons_zero, List.getD_cons_succ, List.getD_nil, Bool.true_and, Bool.and_true, incr, decide_true, Nat.zero_le, Nat.le_refl, eq_int, ne_int, nn_non, nn_int, nn_str, nn_bl, nn_tup, nn_lst, nn_ref, x_tt, x_tf, x_ft, x_ff, up_no, seqK_lst, seqK_tup, seqD_lst, seqD_tup, ↓ok_err, ↓go_er, ↓go_never, ↓ok_mkS, ↓ok_mkS0, ↓ok_prop, List.dropLast_cons₂, List.dropLast_nil, ↓go_setX, end0, end1, xset0, xset1, Ob.exn.injEq, ct_OtherEnds_ends]
  exact h _ Ext.app app_exn
theorem mk_NotAllowed {m : List Ob} {a0 : Dv} {Q : Dv → List Ob → Prop} (h : ∀ m', Ext m m' → XAt m' m.length "NotAllowed" [("word", a0)] → Q .non m') : Ca (c_NotAllowed_init [.ref m.length, a0] (m ++ [.exn "NotAllowed" none])) Q := by
  refine ca_def rfl ?_
  unfold B_NotAllowed_init
  simp (maxSteps := 2000000) only [↓go_seq, ↓go_next, ↓go_cont, ↓go_break, ↓go_retN, ↓go_ret, ↓go_if, ↓go_drop, ↓go_asg, ↓to_V, ↓to_tup, ↓to_cons, ↓to_nil, ↓ok_c, ↓ok_dv, ↓ok_op, ↓ok_un, ↓ok_nil, ↓ok_cons, ↓ok_tup, ↓ok_lst, ↓ok_tru, ↓ok_test, ↓ok_notB, ↓ok_andB, ↓ok_orB, ↓ok_ifE, ↓ok_notV, ↓ok_fn, ↓ok_cb, ↓ok_cm, ↓ok_var, ↓ok_slot, look_slot, look_dv, lookDv_int, lookDv_str, lookDv_bl, lookDv_non, lookDv_tup, lookDv_lst, lookDv_scr, lookDv_ty, lookDv_cls, ↓ok_lstN, push_def, ↓go_asgN, ↓to_N0, ↓ok_settle, ↓ok_store, ↓ok_opN, ↓ok_cn, ↓ok_mut, ↓go_setIx, list_slot, put_slot, ↓ok_fld, ↓go_setF, ↓ok_mt, ↓ok_mk, ↓go_for, ↓ok_rng1, ↓ok_rng2, ↓ok_enum, ↓ok_zip, ↓ok_no, ↓ok_sl, ↓ok_ite, ↓go_ite, ↓ok_ok, ↓ok_stuck, ↓go_stuck, startL, List.map_cons, List.map_nil, List.length_cons, List.length_nil, List.replicate, List.append_nil, List.nil_append, List.cons_append, List.getElem?_cons_zero, List.getElem?_cons_succ, List.set_cons_zero, List.set_cons_succ, Option.bind_some, lookAll, List.getElem?_nil, Nat.zero_add, Nat.reduceAdd, Nat.reduceSub, Nat.reduceLT, true_and, and_true, List.dropLast_singleton, List.length_singleton, if_true, if_false, Bool.not_true, Bool.not_false, Option.some.injEq, exists_eq_left', exists_eq_left, reduceCtorEq, Bool.false_eq_true, ite_true, ite_false, Option.isSome_some, ixL, ixT, ixS, at0, at1, at2, cmpI_int, add_int, sub_int, int_int, neg_int, is_non, Dv.int.injEq, Dv.bl.injEq, Dv.ref.injEq, Dv.tup.injEq, Dv.lst.injEq, Ob.lst.injEq, Ob.ins.injEq, decide_eq_true_eq, Prod.mk.injEq, and_assoc, exists_and_left, List.cons.injEq, ix30, ix31, ix32, szOk_le, Nat.reduceLeDiff, p59, p30, p6, p12, p18, ↓ok_src, ↓src_lst, ↓src_tup, ↓src_str, ↓src_scr, ↓ok_prt, ↓ok_lcN, ↓ok_sortSet, ↓ok_sortK0, ↓to_Ng, ↓go_par, ↓ok_dmNil, ↓ok_dmV, ↓ok_dmN, ↓to_stIs0, ↓to_stIs, ↓to_stIv, ↓to_stIn, ↓ok_andV, ↓ok_orV, tru_bl, tru_lst, ↓ok_chain, wipe0, wipe1, unwipe0, unwipe1, noOwn0, noOwn1, unown_no, unown_val, ↓ok_yes, List.getD_cons_zero, List.getD_cons_succ, List.getD_nil, Bool.true_and, Bool.and_true, incr, decide_true, Nat.zero_le, Nat.le_refl, eq_int, ne_int, nn_non, nn_int, nn_str, nn_bl, nn_tup, nn_lst, nn_ref, x_tt, x_tf, x_ft, x_ff, up_no, seqK_lst, seqK_tup, seqD_lst, seqD_tup, ↓ok_err, ↓go_er, ↓go_never, ↓ok_mkS, ↓ok_mkS0, ↓ok_prop, List.dropLast_cons₂, List.dropLast_nil, ↓go_setX, end0, end1, xset0, xset1, Ob.exn.injEq, ct_NotAllowed_word]
  exact h _ Ext.app app_exn
theorem mk_Unknown {m : List Ob} {a0 : Dv} {Q : Dv → List Ob → Prop} (h : ∀ m', Ext m m' → XAt m' m.length "Unknown" [("word", a0)] → Q .non m') : Ca (c_Unknown_init [.ref m.length, a0] (m ++ [.exn "Unknown" none])) Q := by
  refine ca_def rfl ?_
  unfold B_Unknown_init
  simp (maxSteps := 2000000) only [↓go_seq, ↓go_next, ↓go_cont, ↓go_break, ↓go_retN, ↓go_ret, ↓go_if, ↓go_drop, ↓go_asg, ↓to_V, ↓to_tup, ↓to_cons, ↓to_nil, ↓ok_c, ↓ok_dv, ↓ok_op, ↓ok_un, ↓ok_nil, ↓ok_cons, ↓ok_tup, ↓ok_lst, ↓ok_tru, ↓ok_test, ↓ok_notB, ↓ok_andB, ↓ok_orB, ↓ok_ifE, ↓ok_notV, ↓ok_fn, ↓ok_cb, ↓ok_cm, ↓ok_var, ↓ok_slot, look_slot, look_dv, lookDv_int, lookDv_str, lookDv_bl, lookDv_non, lookDv_tup, lookDv_lst, lookDv_scr, lookDv_ty, lookDv_cls, ↓ok_lstN, push_def, ↓go_asgN, ↓to_N0, ↓ok_settle, ↓ok_store, ↓ok_opN, ↓ok_cn, ↓ok_mut, ↓go_setIx, list_slot, put_slot, ↓ok_fld, ↓go_setF, ↓ok_mt, ↓ok_mk, ↓go_for, ↓ok_rng1, ↓ok_rng2, ↓ok_enum, ↓ok_zip, ↓ok_no, ↓ok_sl, ↓ok_ite, ↓go_ite, ↓ok_ok, ↓ok_stuck, ↓go_stuck, startL, List.map_cons, List.map_nil, List.length_cons, List.length_nil, List.replicate, List.append_nil, List.nil_append, List.cons_append, List.getElem?_cons_zero, List.getElem?_cons_succ, List.set_cons_zero, List.set_cons_succ, Option.bind_some, lookAll, List.getElem?_nil, Nat.zero_add, Nat.reduceAdd, Nat.reduceSub, Nat.reduceLT, true_and, and_true, List.dropLast_singleton, List.length_singleton, if_true, if_false, Bool.not_true, Bool.not_false, Option.some.injEq, exists_eq_left', exists_eq_left, reduceCtorEq, Bool.false_eq_true, ite_true, ite_false, Option.isSome_some, ixL, ixT, ixS, at0, at1, at2, cmpI_int, add_int, sub_int, int_int, neg_int, is_non, Dv.int.injEq, Dv.bl.injEq, Dv.ref.injEq, Dv.tup.injEq, Dv.lst.injEq, Ob.lst.injEq, Ob.ins.injEq, decide_eq_true_eq, Prod.mk.injEq, and_assoc, exists_and_left, List.cons.injEq, ix30, ix31, ix32, szOk_le, Nat.reduceLeDiff, p59, p30, p6, p12, p18, ↓ok_src, ↓src_lst, ↓src_tup, ↓src_str, ↓src_scr, ↓ok_prt, ↓ok_lcN, ↓ok_sortSet, ↓ok_sortK0, ↓to_Ng, ↓go_par, ↓ok_dmNil, ↓ok_dmV, ↓ok_dmN, ↓to_stIs0, ↓to_stIs, ↓to_stIv, ↓to_stIn, ↓ok_andV, ↓ok_orV, tru_bl, tru_lst, ↓ok_chain, wipe0, wipe1, unwipe0, unwipe1, noOwn0, noOwn1, unown_no, unown_val, ↓ok_yes, List.getD_cons_zero, List.getD_cons_succ, List.getD_nil, Bool.true_and, Bool.and_true, incr, decide_true, Nat.zero_le, Nat.le_refl, eq_int, ne_int, nn_non, nn_int, nn_str, nn_bl, nn_tup, nn_lst, nn_ref, x_tt, x_tf, x_ft, x_ff, up_no, seqK_lst, seqK_tup, seqD_lst, seqD_tup, ↓ok_err, ↓go_er, ↓go_never, ↓ok_mkS, ↓ok_mkS0, ↓ok_prop, List.dropLast_cons₂, List.dropLast_nil, ↓go_setX, end0, end1, xset0, xset1, Ob.exn.injEq, ct_Unknown_word]
  exact h _ Ext.app app_exn
theorem mk_Twice {m : List Ob} {a0 : Dv} {Q : Dv → List Ob → Prop} (h : ∀ m', Ext m m' → XAt m' m.length "Twice" [("number", a0)] → Q .non m') : Ca (c_Twice_init [.ref m.length, a0] (m ++ [.exn "Twice" none])) Q := by
  refine ca_def rfl ?_
  unfold B_Twice_init
  simp (maxSteps := 2000000) only [↓go_seq, ↓go_next, ↓go_cont, ↓go_break, ↓go_retN, ↓go_ret, ↓go_if, ↓go_drop, ↓go_asg, ↓to_V, ↓to_tup, ↓to_cons, ↓to_nil, ↓ok_c, ↓ok_dv, ↓ok_op, ↓ok_un, ↓ok_nil, ↓ok_cons, ↓ok_tup, ↓ok_lst, ↓ok_tru, ↓ok_test, ↓ok_notB, ↓ok_andB, ↓ok_orB, ↓ok_ifE, ↓ok_notV, ↓ok_fn, ↓ok_cb, ↓ok_cm, ↓ok_var, ↓ok_slot, look_slot, look_dv, lookDv_int, lookDv_str, lookDv_bl, lookDv_non, lookDv_tup, lookDv_lst, lookDv_scr, lookDv_ty, lookDv_cls, ↓ok_lstN, push_def, ↓go_asgN, ↓to_N0, ↓ok_settle, ↓ok_store, ↓ok_opN, ↓ok_cn, ↓ok_mut, ↓go_setIx, list_slot, put_slot, ↓ok_fld, ↓go_setF, ↓ok_mt, ↓ok_mk, ↓go_for, ↓ok_rng1, ↓ok_rng2, ↓ok_enum, ↓ok_zip, ↓ok_no, ↓ok_sl, ↓ok_ite, ↓go_ite, ↓ok_ok, ↓ok_stuck, ↓go_stuck, startL, List.map_cons, List.map_nil, List.length_cons, List.length_nil, List.replicate, List.append_nil, List.nil_append, List.cons_append, List.getElem?_cons_zero, List.getElem?_cons_succ, List.set_cons_zero, List.set_cons_succ, Option.bind_some, lookAll, List.getElem?_nil, Nat.zero_add, Nat.reduceAdd, Nat.reduceSub, Nat.reduceLT, true_and, and_true, List.dropLast_singleton, List.length_singleton, if_true, if_false, Bool.not_true, Bool.not_false, Option.some.injEq, exists_eq_left', exists_eq_left, reduceCtorEq, Bool.false_eq_true, ite_true, ite_false, Option.isSome_some, ixL, ixT, ixS, at0, at1, at2, cmpI_int, add_int, sub_int, int_int, neg_int, is_non, Dv.int.injEq, Dv.bl.injEq, Dv.ref.injEq, Dv.tup.injEq, Dv.lst.injEq, Ob.lst.injEq, Ob.ins.injEq, decide_eq_true_eq, Prod.mk.injEq, and_assoc, exists_and_left, List.cons.injEq, ix30, ix31, ix32, szOk_le, Nat.reduceLeDiff, p59, p30, p6, p12, p18, ↓ok_src, ↓src_lst, ↓src_tup, ↓src_str, ↓src_scr, ↓ok_prt, ↓ok_lcN, ↓ok_sortSet, ↓ok_sortK0, ↓to_Ng, ↓go_par, ↓ok_dmNil, ↓ok_dmV, ↓ok_dmN, ↓to_stIs0, ↓to_stIs, ↓to_stIv, ↓to_stIn, ↓ok_andV, ↓ok_orV, tru_bl, tru_lst, ↓ok_chain, wipe0, wipe1, unwipe0, unwipe1, noOwn0, noOwn1, unown_no, unown_val, ↓ok_yes, List.getD_cons_zero, List.getD_cons_succ, List.getD_nil, Bool.true_and, Bool.and_true, incr, decide_true, Nat.zero_le, Nat.le_refl, eq_int, ne_int, nn_non, nn_int, nn_str, nn_bl, nn_tup, nn_lst, nn_ref, x_tt, x_tf, x_ft, x_ff, up_no, seqK_lst, seqK_tup, seqD_lst, seqD_tup, ↓ok_err, ↓go_er, ↓go_never, ↓ok_mkS, ↓ok_mkS0, ↓ok_prop, List.dropLast_cons₂, List.dropLast_nil, ↓go_setX, end0, end1, xset0, xset1, Ob.exn.injEq, ct_Twice_number]
  exact h _ Ext.app app_exn
theorem mk_TwoRows {m : List Ob} {a0 a1 : Dv} {Q : Dv → List Ob → Prop} (h : ∀ m', Ext m m' → XAt m' m.length "TwoRows" [("later", a1), ("earlier", a0)] → Q .non m') : Ca (c_TwoRows_init [.ref m.length, a0, a1] (m ++ [.exn "TwoRows" none])) Q := by
  refine ca_def rfl ?_
  unfold B_TwoRows_init
  simp (maxSteps := 2000000) only [↓go_seq, ↓go_next, ↓go_cont, ↓go_break, ↓go_retN, ↓go_ret, ↓go_if, ↓go_drop, ↓go_asg, ↓to_V, ↓to_tup, ↓to_cons, ↓to_nil, ↓ok_c, ↓ok_dv, ↓ok_op, ↓ok_un, ↓ok_nil, ↓ok_cons, ↓ok_tup, ↓ok_lst, ↓ok_tru, ↓ok_test, ↓ok_notB, ↓ok_andB, ↓ok_orB, ↓ok_ifE, ↓ok_notV, ↓ok_fn, ↓ok_cb, ↓ok_cm, ↓ok_var, ↓ok_slot, look_slot, look_dv, lookDv_int, lookDv_str, lookDv_bl, lookDv_non, lookDv_tup, lookDv_lst, lookDv_scr, lookDv_ty, lookDv_cls, ↓ok_lstN, push_def, ↓go_asgN, ↓to_N0, ↓ok_settle, ↓ok_store, ↓ok_opN, ↓ok_cn, ↓ok_mut, ↓go_setIx, list_slot, put_slot, ↓ok_fld, ↓go_setF, ↓ok_mt, ↓ok_mk, ↓go_for, ↓ok_rng1, ↓ok_rng2, ↓ok_enum, ↓ok_zip, ↓ok_no, ↓ok_sl, ↓ok_ite, ↓go_ite, ↓ok_ok, ↓ok_stuck, ↓go_stuck, startL, List.map_cons, List.map_nil, List.length_cons, List.length_nil, List.replicate, List.append_nil, List.nil_append, List.cons_append, List.getElem?_cons_zero, List.getElem?_cons_succ, List.set_cons_zero, List.set_cons_succ, Option.bind_some, lookAll, List.getElem?_nil, Nat.zero_add, Nat.reduceAdd, Nat.reduceSub, Nat.reduceLT, true_and, and_true, List.dropLast_singleton, List.length_singleton, if_true, if_false, Bool.not_true, Bool.not_false, Option.some.injEq, exists_eq_left', exists_eq_left, reduceCtorEq, Bool.false_eq_true, ite_true, ite_false, Option.isSome_some, ixL, ixT, ixS, at0, at1, at2, cmpI_int, add_int, sub_int, int_int, neg_int, is_non, Dv.int.injEq, Dv.bl.injEq, Dv.ref.injEq, Dv.tup.injEq, Dv.lst.injEq, Ob.lst.injEq, Ob.ins.injEq, decide_eq_true_eq, Prod.mk.injEq, and_assoc, exists_and_left, List.cons.injEq, ix30, ix31, ix32, szOk_le, Nat.reduceLeDiff, p59, p30, p6, p12, p18, ↓ok_src, ↓src_lst, ↓src_tup, ↓src_str, ↓src_scr, ↓ok_prt, ↓ok_lcN, ↓ok_sortSet, ↓ok_sortK0, ↓to_Ng, ↓go_par, ↓ok_dmNil, ↓ok_dmV, ↓ok_dmN, ↓to_stIs0, ↓to_stIs, ↓to_stIv, ↓to_stIn, ↓ok_andV, ↓ok_orV, tru_bl, tru_lst, ↓ok_chain, wipe0, wipe1, unwipe0, unwipe1, noOwn0, noOwn1, unown_no, unown_val, ↓ok_yes, List.getD_cons_zero, List.getD_cons_succ, List.getD_nil, Bool.true_and, Bool.and_true, incr, decide_true, Nat.zero_le, Nat.le_refl, eq_int, ne_int, nn_non, nn_int, nn_str, nn_bl, nn_tup, nn_lst, nn_ref, x_tt, x_tf, x_ft, x_ff, up_no, seqK_lst, seqK_tup, seqD_lst, seqD_tup, ↓ok_err, ↓go_er, ↓go_never, ↓ok_mkS, ↓ok_mkS0, ↓ok_prop, List.dropLast_cons₂, List.dropLast_nil, ↓go_setX, end0, end1, xset0, xset1, Ob.exn.injEq, ct_TwoRows_earlier, ct_TwoRows_later]
  exact h _ Ext.app app_exn
theorem mk_BadTurns {m : List Ob} {a0 : Dv} {Q : Dv → List Ob → Prop} (h : ∀ m', Ext m m' → XAt m' m.length "BadTurns" [("turns", a0)] → Q .non m') : Ca (c_BadTurns_init [.ref m.length, a0] (m ++ [.exn "BadTurns" none])) Q := by
  refine ca_def rfl ?_
  unfold B_BadTurns_init
  simp (maxSteps := 2000000) only [↓go_seq, ↓go_next, ↓go_cont, ↓go_break, ↓go_retN, ↓go_ret, ↓go_if, ↓go_drop, ↓go_asg, ↓to_V, ↓to_tup, ↓to_cons, ↓to_nil, ↓ok_c, ↓ok_dv, ↓ok_op, ↓ok_un, ↓ok_nil, ↓ok_cons, ↓ok_tup, ↓ok_lst, ↓ok_tru, ↓ok_test, ↓ok_notB, ↓ok_andB, ↓ok_orB, ↓ok_ifE, ↓ok_notV, ↓ok_fn, ↓ok_cb, ↓ok_cm, ↓ok_var, ↓ok_slot, look_slot, look_dv, lookDv_int, lookDv_str, lookDv_bl, lookDv_non, lookDv_tup, lookDv_lst, lookDv_scr, lookDv_ty, lookDv_cls, ↓ok_lstN, push_def, ↓go_asgN, ↓to_N0, ↓ok_settle, ↓ok_store, ↓ok_opN, ↓ok_cn, ↓ok_mut, ↓go_setIx, list_slot, put_slot, ↓ok_fld, ↓go_setF, ↓ok_mt, ↓ok_mk, ↓go_for, ↓ok_rng1, ↓ok_rng2, ↓ok_enum, ↓ok_zip, ↓ok_no, ↓ok_sl, ↓ok_ite, ↓go_ite, ↓ok_ok, ↓ok_stuck, ↓go_stuck, startL, List.map_cons, List.map_nil, List.length_cons, List.length_nil, List.replicate, List.append_nil, List.nil_append, List.cons_append, List.getElem?_cons_zero, List.getElem?_cons_succ, List.set_cons_zero, List.set_cons_succ, Option.bind_some, lookAll, List.getElem?_nil, Nat.zero_add, Nat.reduceAdd, Nat.reduceSub, Nat.reduceLT, true_and, and_true, List.dropLast_singleton, List.length_singleton, if_true, if_false, Bool.not_true, Bool.not_false, Option.some.injEq, exists_eq_left', exists_eq_left, reduceCtorEq, Bool.false_eq_true, ite_true, ite_false, Option.isSome_some, ixL, ixT, ixS, at0, at1, at2, cmpI_int, add_int, sub_int, int_int, neg_int, is_non, Dv.int.injEq, Dv.bl.injEq, Dv.ref.injEq, Dv.tup.injEq, Dv.lst.injEq, Ob.lst.injEq, Ob.ins.injEq, decide_eq_true_eq, Prod.mk.injEq, and_assoc, exists_and_left, List.cons.injEq, ix30, ix31, ix32, szOk_le, Nat.reduceLeDiff, p59, p30, p6, p12, p18, ↓ok_src, ↓src_lst, ↓src_tup, ↓src_str, ↓src_scr, ↓ok_prt, ↓ok_lcN, ↓ok_sortSet, ↓ok_sortK0, ↓to_Ng, ↓go_par, ↓ok_dmNil, ↓ok_dmV, ↓ok_dmN, ↓to_stIs0, ↓to_stIs, ↓to_stIv, ↓to_stIn, ↓ok_andV, ↓ok_orV, tru_bl, tru_lst, ↓ok_chain, wipe0, wipe1, unwipe0, unwipe1, noOwn0, noOwn1, unown_no, unown_val, ↓ok_yes, List.getD_cons_zero, List.getD_cons_succ, List.getD_nil, Bool.true_and, Bool.and_true, incr, decide_true, Nat.zero_le, Nat.le_refl, eq_int, ne_int, nn_non, nn_int, nn_str, nn_bl, nn_tup, nn_lst, nn_ref, x_tt, x_tf, x_ft, x_ff, up_no, seqK_lst, seqK_tup, seqD_lst, seqD_tup, ↓ok_err, ↓go_er, ↓go_never, ↓ok_mkS, ↓ok_mkS0, ↓ok_prop, List.dropLast_cons₂, List.dropLast_nil, ↓go_setX, end0, end1, xset0, xset1, Ob.exn.injEq, ct_BadTurns_turns]
  exact h _ Ext.app app_exn
theorem mk_Refused {m : List Ob} {a0 a1 a2 : Dv} {Q : Dv → List Ob → Prop} (h : ∀ m', Ext m m' → XAt m' m.length "Refused" [("why", a2), ("name", a1), ("index", a0)] → Q .non m') : Ca (c_Refused_init [.ref m.length, a0, a1, a2] (m ++ [.exn "Refused" none])) Q := by
  refine ca_def rfl ?_
  unfold B_Refused_init
  simp (maxSteps := 2000000) only [↓go_seq, ↓go_next, ↓go_cont, ↓go_break, ↓go_retN, ↓go_ret, ↓go_if, ↓go_drop, ↓go_asg, ↓to_V, ↓to_tup, ↓to_cons, ↓to_nil, ↓ok_c, ↓ok_dv, ↓ok_op, ↓ok_un, ↓ok_nil, ↓ok_cons, ↓ok_tup, ↓ok_lst, ↓ok_tru, ↓ok_test, ↓ok_notB, ↓ok_andB, ↓ok_orB, ↓ok_ifE, ↓ok_notV, ↓ok_fn, ↓ok_cb, ↓ok_cm, ↓ok_var, ↓ok_slot, look_slot, look_dv, lookDv_int, lookDv_str, lookDv_bl, lookDv_non, lookDv_tup, lookDv_lst, lookDv_scr, lookDv_ty, lookDv_cls, ↓ok_lstN, push_def, ↓go_asgN, ↓to_N0, ↓ok_settle, ↓ok_store, ↓ok_opN, ↓ok_cn, ↓ok_mut, ↓go_setIx, list_slot, put_slot, ↓ok_fld, ↓go_setF, ↓ok_mt, ↓ok_mk, ↓go_for, ↓ok_rng1, ↓ok_rng2, ↓ok_enum, ↓ok_zip, ↓ok_no, ↓ok_sl, ↓ok_ite, ↓go_ite, ↓ok_ok, ↓ok_stuck, ↓go_stuck, startL, List.map_cons, List.map_nil, List.length_cons, List.length_nil, List.replicate, List.append_nil, List.nil_append, List.cons_append, List.getElem?_cons_zero, List.getElem?_cons_succ, List.set_cons_zero, List.set_cons_succ, Option.bind_some, lookAll, List.getElem?_nil, Nat.zero_add, Nat.reduceAdd, Nat.reduceSub, Nat.reduceLT, true_and, and_true, List.dropLast_singleton, List.length_singleton, if_true, if_false, Bool.not_true, Bool.not_false, Option.some.injEq, exists_eq_left', exists_eq_left, reduceCtorEq, Bool.false_eq_true, ite_true, ite_false, Option.isSome_some, ixL, ixT, ixS, at0, at1, at2, cmpI_int, add_int, sub_int, int_int, neg_int, is_non, Dv.int.injEq, Dv.bl.injEq, Dv.ref.injEq, Dv.tup.injEq, Dv.lst.injEq, Ob.lst.injEq, Ob.ins.injEq, decide_eq_true_eq, Prod.mk.injEq, and_assoc, exists_and_left, List.cons.injEq, ix30, ix31, ix32, szOk_le, Nat.reduceLeDiff, p59, p30, p6, p12, p18, ↓ok_src, ↓src_lst, ↓src_tup, ↓src_str, ↓src_scr, ↓ok_prt, ↓ok_lcN, ↓ok_sortSet, ↓ok_sortK0, ↓to_Ng, ↓go_par, ↓ok_dmNil, ↓ok_dmV, ↓ok_dmN, ↓to_stIs0, ↓to_stIs, ↓to_stIv, ↓to_stIn, ↓ok_andV, ↓ok_orV, tru_bl, tru_lst, ↓ok_chain, wipe0, wipe1, unwipe0, unwipe1, noOwn0, noOwn1, unown_no, unown_val, ↓ok_yes, List.getD_cons_zero, List.getD_cons_succ, List.getD_nil, Bool.true_and, Bool.and_true, incr, decide_true, Nat.zero_le, Nat.le_refl, eq_int, ne_int, nn_non, nn_int, nn_str, nn_bl, nn_tup, nn_lst, nn_ref, x_tt, x_tf, x_ft, x_ff, up_no, seqK_lst, seqK_tup, seqD_lst, seqD_tup, ↓ok_err, ↓go_er, ↓go_never, ↓ok_mkS, ↓ok_mkS0, ↓ok_prop, List.dropLast_cons₂, List.dropLast_nil, ↓go_setX, end0, end1, xset0, xset1, Ob.exn.injEq, ct_Refused_index, ct_Refused_name, ct_Refused_why]
  exact h _ Ext.app app_exn
/-! which is which -/
def xlist : List Str := ["EmptyRow", "EmptyStretch", "Unordered", "Clash", "BadLine", "TooMany", "TooFar", "NoDay", "OtherEnds", "NotAllowed", "Unknown", "Twice", "TwoRows", "NothingWrong", "NoScene", "HasHeads", "BadTurns", "Refused"]
def xk (C D : Str) : Bool := decide (C = D) || decide ((C, D) ∈ xups)
theorem tb_in {C D : Str} (h1 : C ∈ xclasses) (h2 : D ∈ xclasses) : isXTbl xclasses xups C (.cls D) = some (xk C D) := if_pos ⟨h1, h2⟩
theorem tb_ve {C : Str} (h1 : C ∈ xclasses) : isXTbl xclasses xups C (.ty "ValueError") = some true := if_pos ⟨h1, rfl⟩
theorem in_EmptyRow : ("EmptyRow" : Str) ∈ xclasses := by decide +kernel
theorem in_EmptyStretch : ("EmptyStretch" : Str) ∈ xclasses := by decide +kernel
theorem in_Unordered : ("Unordered" : Str) ∈ xclasses := by decide +kernel
theorem in_Clash : ("Clash" : Str) ∈ xclasses := by decide +kernel
theorem in_BadLine : ("BadLine" : Str) ∈ xclasses := by decide +kernel
theorem in_TooMany : ("TooMany" : Str) ∈ xclasses := by decide +kernel
theorem in_TooFar : ("TooFar" : Str) ∈ xclasses := by decide +kernel
theorem in_NoDay : ("NoDay" : Str) ∈ xclasses := by decide +kernel
theorem in_OtherEnds : ("OtherEnds" : Str) ∈ xclasses := by decide +kernel
theorem in_NotAllowed : ("NotAllowed" : Str) ∈ xclasses := by decide +kernel
theorem in_Unknown : ("Unknown" : Str) ∈ xclasses := by decide +kernel
theorem in_Twice : ("Twice" : Str) ∈ xclasses := by decide +kernel
theorem in_TwoRows : ("TwoRows" : Str) ∈ xclasses := by decide +kernel
theorem in_NothingWrong : ("NothingWrong" : Str) ∈ xclasses := by decide +kernel
theorem in_NoScene : ("NoScene" : Str) ∈ xclasses := by decide +kernel
theorem in_HasHeads : ("HasHeads" : Str) ∈ xclasses := by decide +kernel
theorem in_BadTurns : ("BadTurns" : Str) ∈ xclasses := by decide +kernel
theorem in_Refused : ("Refused" : Str) ∈ xclasses := by decide +kernel
theorem in_RowsError : ("RowsError" : Str) ∈ xclasses := by decide +kernel
theorem kinds_t {m : List Ob} {n : Nat} {C : Str} {fs : List (Str × Dv)} {Q : Dv → List Ob → Prop} (h : XAt m n C fs) (hC : C ∈ xclasses) (q : Q (.lst ((xlist.map fun D => xk C D).map .bl)) m) : Ca (c__law_kinds [.ref n] m) Q := by
  refine ca_def rfl ?_
  unfold B__law_kinds
  have hx : ∀ c, fIsX (isXTbl xclasses xups) m [.ref n, c] = (tagC c).bind fun u => (isXTbl xclasses xups C u).map .bl := fun c => h.is
  simp (maxSteps := 2000000) only [↓go_seq, ↓go_next, ↓go_cont, ↓go_break, ↓go_retN, ↓go_ret, ↓go_if, ↓go_drop, ↓go_asg, ↓to_V, ↓to_tup, ↓to_cons, ↓to_nil, ↓ok_c, ↓ok_dv, ↓ok_op, ↓ok_un, ↓ok_nil, ↓ok_cons, ↓ok_tup, ↓ok_lst, ↓ok_tru, ↓ok_test, ↓ok_notB, ↓ok_andB, ↓ok_orB, ↓ok_ifE, ↓ok_notV, ↓ok_fn, ↓ok_cb, ↓ok_cm, ↓ok_var, ↓ok_slot, look_slot, look_dv, lookDv_int, lookDv_str, lookDv_bl, lookDv_non, lookDv_tup, lookDv_lst, lookDv_scr, lookDv_ty, lookDv_cls, ↓ok_lstN, push_def, ↓go_asgN, ↓to_N0, ↓ok_settle, ↓ok_store, ↓ok_opN, ↓ok_cn, ↓ok_mut, ↓go_setIx, list_slot, put_slot, ↓ok_fld, ↓go_setF, ↓ok_mt, ↓ok_mk, ↓go_for, ↓ok_rng1, ↓ok_rng2, ↓ok_enum, ↓ok_zip, ↓ok_no, ↓ok_sl, ↓ok_ite, ↓go_ite, ↓ok_ok, ↓ok_stuck, ↓go_stuck, startL, List.map_cons, List.map_nil, List.length_cons, List.length_nil, List.replicate, List.append_nil, List.nil_append, List.cons_append, List.getElem?_cons_zero, List.getElem?_cons_succ, List.set_cons_zero, List.set_cons_succ, Option.bind_some, lookAll, List.getElem?_nil, Nat.zero_add, Nat.reduceAdd, Nat.reduceSub, Nat.reduceLT, true_and, and_true, List.dropLast_singleton, List.length_singleton, if_true, if_false, Bool.not_true, Bool.not_false, Option.some.injEq, exists_eq_left', exists_eq_left, reduceCtorEq, Bool.false_eq_true, ite_true, ite_false, Option.isSome_some, ixL, ixT, ixS, at0, at1, at2, cmpI_int, add_int, sub_int, int_int, neg_int, is_non, Dv.int.injEq, Dv.bl.injEq, Dv.ref.injEq, Dv.tup.injEq, Dv.lst.injEq, Ob.lst.injEq, Ob.ins.injEq, decide_eq_true_eq, Prod.mk.injEq, and_assoc, exists_and_left, List.cons.injEq, ix30, ix31, ix32, szOk_le, Nat.reduceLeDiff, p59, p30, p6, p12, p18, ↓ok_src, ↓src_lst, ↓src_tup, ↓src_str, ↓src_scr, ↓ok_prt, ↓ok_lcN, ↓ok_sortSet, ↓ok_sortK0, ↓to_Ng, ↓go_par, ↓ok_dmNil, ↓ok_dmV, ↓ok_dmN, ↓to_stIs0, ↓to_stIs, ↓to_stIv, ↓to_stIn, ↓ok_andV, ↓ok_orV, tru_bl, tru_lst, ↓ok_chain, wipe0, wipe1, unwipe0, unwipe1, noOwn0, noOwn1, unown_no, unown_val, ↓ok_yes, List.getD_cons_zero, List.getD_cons_succ, List.getD_nil, Bool.true_and, Bool.and_true, incr, decide_true, Nat.zero_le, Nat.le_refl, eq_int, ne_int, nn_non, nn_int, nn_str, nn_bl, nn_tup, nn_lst, nn_ref, x_tt, x_tf, x_ft, x_ff, up_no, seqK_lst, seqK_tup, seqD_lst, seqD_tup, ↓ok_err, ↓go_er, ↓go_never, ↓ok_mkS, ↓ok_mkS0, ↓ok_prop, List.dropLast_cons₂, List.dropLast_nil, h.look, hx, tagC, Option.map_some, app_lst, Nat.reduceLeDiff, tb_in hC in_EmptyRow, tb_in hC in_EmptyStretch, tb_in hC in_Unordered, tb_in hC in_Clash, tb_in hC in_BadLine, tb_in hC in_TooMany, tb_in hC in_TooFar, tb_in hC in_NoDay, tb_in hC in_OtherEnds, tb_in hC in_NotAllowed, tb_in hC in_Unknown, tb_in hC in_Twice, tb_in hC in_TwoRows, tb_in hC in_NothingWrong, tb_in hC in_NoScene, tb_in hC in_HasHeads, tb_in hC in_BadTurns, tb_in hC in_Refused]
  exact q
theorem is_own_t {m : List Ob} {n : Nat} {C : Str} {i : Int} {fs : List (Str × Dv)} {Q : Dv → List Ob → Prop} (h : XAt m n C fs) (hC : C ∈ xclasses) (hR : xk C "RowsError" = true) (he : (xlist.map fun D => xk C D) = (List.range 18).map fun k : Nat => decide ((k : Int) = i)) (q : Q (.bl true) m) : Ca (c__law_is_own [.ref n, .int i] m) Q := by
  refine ca_def rfl ?_
  unfold B__law_is_own
  have hx : ∀ c, fIsX (isXTbl xclasses xups) m [.ref n, c] = (tagC c).bind fun u => (isXTbl xclasses xups C u).map .bl := fun c => h.is
  simp (maxSteps := 2000000) only [↓go_seq, ↓go_next, ↓go_cont, ↓go_break, ↓go_retN, ↓go_ret, ↓go_if, ↓go_drop, ↓go_asg, ↓to_V, ↓to_tup, ↓to_cons, ↓to_nil, ↓ok_c, ↓ok_dv, ↓ok_op, ↓ok_un, ↓ok_nil, ↓ok_cons, ↓ok_tup, ↓ok_lst, ↓ok_tru, ↓ok_test, ↓ok_notB, ↓ok_andB, ↓ok_orB, ↓ok_ifE, ↓ok_notV, ↓ok_fn, ↓ok_cb, ↓ok_cm, ↓ok_var, ↓ok_slot, look_slot, look_dv, lookDv_int, lookDv_str, lookDv_bl, lookDv_non, lookDv_tup, lookDv_lst, lookDv_scr, lookDv_ty, lookDv_cls, ↓ok_lstN, push_def, ↓go_asgN, ↓to_N0, ↓ok_settle, ↓ok_store, ↓ok_opN, ↓ok_cn, ↓ok_mut, ↓go_setIx, list_slot, put_slot, ↓ok_fld, ↓go_setF, ↓ok_mt, ↓ok_mk, ↓go_for, ↓ok_rng1, ↓ok_rng2, ↓ok_enum, ↓ok_zip, ↓ok_no, ↓ok_sl, ↓ok_ite, ↓go_ite, ↓ok_ok, ↓ok_stuck, ↓go_stuck, startL, List.map_cons, List.map_nil, List.length_cons, List.length_nil, List.replicate, List.append_nil, List.nil_append, List.cons_append, List.getElem?_cons_zero, List.getElem?_cons_succ, List.set_cons_zero, List.set_cons_succ, Option.bind_some, lookAll, List.getElem?_nil, Nat.zero_add, Nat.reduceAdd, Nat.reduceSub, Nat.reduceLT, true_and, and_true, List.dropLast_singleton, List.length_singleton, if_true, if_false, Bool.not_true, Bool.not_false, Option.some.injEq, exists_eq_left', exists_eq_left, reduceCtorEq, Bool.false_eq_true, ite_true, ite_false, Option.isSome_some, ixL, ixT, ixS, at0, at1, at2, cmpI_int, add_int, sub_int, int_int, neg_int, is_non, Dv.int.injEq, Dv.bl.injEq, Dv.ref.injEq, Dv.tup.injEq, Dv.lst.injEq, Ob.lst.injEq, Ob.ins.injEq, decide_eq_true_eq, Prod.mk.injEq, and_assoc, exists_and_left, List.cons.injEq, ix30, ix31, ix32, szOk_le, Nat.reduceLeDiff, p59, p30, p6, p12, p18, ↓ok_src, ↓src_lst, ↓src_tup, ↓src_str, ↓src_scr, ↓ok_prt, ↓ok_lcN, ↓ok_sortSet, ↓ok_sortK0, ↓to_Ng, ↓go_par, ↓ok_dmNil, ↓ok_dmV, ↓ok_dmN, ↓to_stIs0, ↓to_stIs, ↓to_stIv, ↓to_stIn, ↓ok_andV, ↓ok_orV, tru_bl, tru_lst, ↓ok_chain, wipe0, wipe1, unwipe0, unwipe1, noOwn0, noOwn1, unown_no, unown_val, ↓ok_yes, List.getD_cons_zero, List.getD_cons_succ, List.getD_nil, Bool.true_and, Bool.and_true, incr, decide_true, Nat.zero_le, Nat.le_refl, eq_int, ne_int, nn_non, nn_int, nn_str, nn_bl, nn_tup, nn_lst, nn_ref, x_tt, x_tf, x_ft, x_ff, up_no, seqK_lst, seqK_tup, seqD_lst, seqD_tup, ↓ok_err, ↓go_er, ↓go_never, ↓ok_mkS, ↓ok_mkS0, ↓ok_prop, List.dropLast_cons₂, List.dropLast_nil, h.look, hx, tagC, Option.map_some, tb_in hC in_RowsError, tb_ve hC, hR]
  refine kinds_t h hC ?_
  simp (maxSteps := 2000000) only [↓go_seq, ↓go_next, ↓go_cont, ↓go_break, ↓go_retN, ↓go_ret, ↓go_if, ↓go_drop, ↓go_asg, ↓to_V, ↓to_tup, ↓to_cons, ↓to_nil, ↓ok_c, ↓ok_dv, ↓ok_op, ↓ok_un, ↓ok_nil, ↓ok_cons, ↓ok_tup, ↓ok_lst, ↓ok_tru, ↓ok_test, ↓ok_notB, ↓ok_andB, ↓ok_orB, ↓ok_ifE, ↓ok_notV, ↓ok_fn, ↓ok_cb, ↓ok_cm, ↓ok_var, ↓ok_slot, look_slot, look_dv, lookDv_int, lookDv_str, lookDv_bl, lookDv_non, lookDv_tup, lookDv_lst, lookDv_scr, lookDv_ty, lookDv_cls, ↓ok_lstN, push_def, ↓go_asgN, ↓to_N0, ↓ok_settle, ↓ok_store, ↓ok_opN, ↓ok_cn, ↓ok_mut, ↓go_setIx, list_slot, put_slot, ↓ok_fld, ↓go_setF, ↓ok_mt, ↓ok_mk, ↓go_for, ↓ok_rng1, ↓ok_rng2, ↓ok_enum, ↓ok_zip, ↓ok_no, ↓ok_sl, ↓ok_ite, ↓go_ite, ↓ok_ok, ↓ok_stuck, ↓go_stuck, startL, List.map_cons, List.map_nil, List.length_cons, List.length_nil, List.replicate, List.append_nil, List.nil_append, List.cons_append, List.getElem?_cons_zero, List.getElem?_cons_succ, List.set_cons_zero, List.set_cons_succ, Option.bind_some, lookAll, List.getElem?_nil, Nat.zero_add, Nat.reduceAdd, Nat.reduceSub, Nat.reduceLT, true_and, and_true, List.dropLast_singleton, List.length_singleton, if_true, if_false, Bool.not_true, Bool.not_false, Option.some.injEq, exists_eq_left', exists_eq_left, reduceCtorEq, Bool.false_eq_true, ite_true, ite_false, Option.isSome_some, ixL, ixT, ixS, at0, at1, at2, cmpI_int, add_int, sub_int, int_int, neg_int, is_non, Dv.int.injEq, Dv.bl.injEq, Dv.ref.injEq, Dv.tup.injEq, Dv.lst.injEq, Ob.lst.injEq, Ob.ins.injEq, decide_eq_true_eq, Prod.mk.injEq, and_assoc, exists_and_left, List.cons.injEq, ix30, ix31, ix32, szOk_le, Nat.reduceLeDiff, p59, p30, p6, p12, p18, ↓ok_src, ↓src_lst, ↓src_tup, ↓src_str, ↓src_scr, ↓ok_prt, ↓ok_lcN, ↓ok_sortSet, ↓ok_sortK0, ↓to_Ng, ↓go_par, ↓ok_dmNil, ↓ok_dmV, ↓ok_dmN, ↓to_stIs0, ↓to_stIs, ↓to_stIv, ↓to_stIn, ↓ok_andV, ↓ok_orV, tru_bl, tru_lst, ↓ok_chain, wipe0, wipe1, unwipe0, unwipe1, noOwn0, noOwn1, unown_no, unown_val, ↓ok_yes, List.getD_cons_zero, List.getD_cons_succ, List.getD_nil, Bool.true_and, Bool.and_true, incr, decide_true, Nat.zero_le, Nat.le_refl, eq_int, ne_int, nn_non, nn_int, nn_str, nn_bl, nn_tup, nn_lst, nn_ref, x_tt, x_tf, x_ft, x_ff, up_no, seqK_lst, seqK_tup, seqD_lst, seqD_tup, ↓ok_err, ↓go_er, ↓go_never, ↓ok_mkS, ↓ok_mkS0, ↓ok_prop, List.dropLast_cons₂, List.dropLast_nil]
  refine ⟨by decide, ?_⟩
  refine lc0c (chk := always) rfl (fun d => match d with | .int k => [.bl (decide (k = i))] | _ => []) _ ?_ ?_ ?_
  · intro d hd acc
    obtain ⟨k, hk, rfl⟩ := List.mem_map.mp hd
    simp (maxSteps := 2000000) only [↓go_seq, ↓go_next, ↓go_cont, ↓go_break, ↓go_retN, ↓go_ret, ↓go_if, ↓go_drop, ↓go_asg, ↓to_V, ↓to_tup, ↓to_cons, ↓to_nil, ↓ok_c, ↓ok_dv, ↓ok_op, ↓ok_un, ↓ok_nil, ↓ok_cons, ↓ok_tup, ↓ok_lst, ↓ok_tru, ↓ok_test, ↓ok_notB, ↓ok_andB, ↓ok_orB, ↓ok_ifE, ↓ok_notV, ↓ok_fn, ↓ok_cb, ↓ok_cm, ↓ok_var, ↓ok_slot, look_slot, look_dv, lookDv_int, lookDv_str, lookDv_bl, lookDv_non, lookDv_tup, lookDv_lst, lookDv_scr, lookDv_ty, lookDv_cls, ↓ok_lstN, push_def, ↓go_asgN, ↓to_N0, ↓ok_settle, ↓ok_store, ↓ok_opN, ↓ok_cn, ↓ok_mut, ↓go_setIx, list_slot, put_slot, ↓ok_fld, ↓go_setF, ↓ok_mt, ↓ok_mk, ↓go_for, ↓ok_rng1, ↓ok_rng2, ↓ok_enum, ↓ok_zip, ↓ok_no, ↓ok_sl, ↓ok_ite, ↓go_ite, ↓ok_ok, ↓ok_stuck, ↓go_stuck, startL, List.map_cons, List.map_nil, List.length_cons, List.length_nil, List.replicate, List.append_nil, List.nil_append, List.cons_append, List.getElem?_cons_zero, List.getElem?_cons_succ, List.set_cons_zero, List.set_cons_succ, Option.bind_some, lookAll, List.getElem?_nil, Nat.zero_add, Nat.reduceAdd, Nat.reduceSub, Nat.reduceLT, true_and, and_true, List.dropLast_singleton, List.length_singleton, if_true, if_false, Bool.not_true, Bool.not_false, Option.some.injEq, exists_eq_left', exists_eq_left, reduceCtorEq, Bool.false_eq_true, ite_true, ite_false, Option.isSome_some, ixL, ixT, ixS, at0, at1, at2, cmpI_int, add_int, sub_int, int_int, neg_int, is_non, Dv.int.injEq, Dv.bl.injEq, Dv.ref.injEq, Dv.tup.injEq, Dv.lst.injEq, Ob.lst.injEq, Ob.ins.injEq, decide_eq_true_eq, Prod.mk.injEq, and_assoc, exists_and_left, List.cons.injEq, ix30, ix31, ix32, szOk_le, Nat.reduceLeDiff, p59, p30, p6, p12, p18, ↓ok_src, ↓src_lst, ↓src_tup, ↓src_str, ↓src_scr, ↓ok_prt, ↓ok_lcN, ↓ok_sortSet, ↓ok_sortK0, ↓to_Ng, ↓go_par, ↓ok_dmNil, ↓ok_dmV, ↓ok_dmN, ↓to_stIs0, ↓to_stIs, ↓to_stIv, ↓to_stIn, ↓ok_andV, ↓ok_orV, tru_bl, tru_lst, ↓ok_chain, wipe0, wipe1, unwipe0, unwipe1, noOwn0, noOwn1, unown_no, unown_val, ↓ok_yes, List.getD_cons_zero, List.getD_cons_succ, List.getD_nil, Bool.true_and, Bool.and_true, incr, decide_true, Nat.zero_le, Nat.le_refl, eq_int, ne_int, nn_non, nn_int, nn_str, nn_bl, nn_tup, nn_lst, nn_ref, x_tt, x_tf, x_ft, x_ff, up_no, seqK_lst, seqK_tup, seqD_lst, seqD_tup, ↓ok_err, ↓go_er, ↓go_never, ↓ok_mkS, ↓ok_mkS0, ↓ok_prop, List.dropLast_cons₂, List.dropLast_nil]
  · rw [rng_len]; decide
  · have e : (rngItems 0 (18 : Int).toNat).flatMap (fun d => match d with | .int k => [Dv.bl (decide (k = i))] | _ => []) = ((List.range 18).map fun k : Nat => decide ((k : Int) = i)).map .bl := by
      simp [rngItems, List.range, List.range.loop]
    rw [e, he]
    simp (maxSteps := 2000000) only [↓go_seq, ↓go_next, ↓go_cont, ↓go_break, ↓go_retN, ↓go_ret, ↓go_if, ↓go_drop, ↓go_asg, ↓to_V, ↓to_tup, ↓to_cons, ↓to_nil, ↓ok_c, ↓ok_dv, ↓ok_op, ↓ok_un, ↓ok_nil, ↓ok_cons, ↓ok_tup, ↓ok_lst, ↓ok_tru, ↓ok_test, ↓ok_notB, ↓ok_andB, ↓ok_orB, ↓ok_ifE, ↓ok_notV, ↓ok_fn, ↓ok_cb, ↓ok_cm, ↓ok_var, ↓ok_slot, look_slot, look_dv, lookDv_int, lookDv_str, lookDv_bl, lookDv_non, lookDv_tup, lookDv_lst, lookDv_scr, lookDv_ty, lookDv_cls, ↓ok_lstN, push_def, ↓go_asgN, ↓to_N0, ↓ok_settle, ↓ok_store, ↓ok_opN, ↓ok_cn, ↓ok_mut, ↓go_setIx, list_slot, put_slot, ↓ok_fld, ↓go_setF, ↓ok_mt, ↓ok_mk, ↓go_for, ↓ok_rng1, ↓ok_rng2, ↓ok_enum, ↓ok_zip, ↓ok_no, ↓ok_sl, ↓ok_ite, ↓go_ite, ↓ok_ok, ↓ok_stuck, ↓go_stuck, startL, List.map_cons, List.map_nil, List.length_cons, List.length_nil, List.replicate, List.append_nil, List.nil_append, List.cons_append, List.getElem?_cons_zero, List.getElem?_cons_succ, List.set_cons_zero, List.set_cons_succ, Option.bind_some, lookAll, List.getElem?_nil, Nat.zero_add, Nat.reduceAdd, Nat.reduceSub, Nat.reduceLT, true_and, and_true, List.dropLast_singleton, List.length_singleton, if_true, if_false, Bool.not_true, Bool.not_false, Option.some.injEq, exists_eq_left', exists_eq_left, reduceCtorEq, Bool.false_eq_true, ite_true, ite_false, Option.isSome_some, ixL, ixT, ixS, at0, at1, at2, cmpI_int, add_int, sub_int, int_int, neg_int, is_non, Dv.int.injEq, Dv.bl.injEq, Dv.ref.injEq, Dv.tup.injEq, Dv.lst.injEq, Ob.lst.injEq, Ob.ins.injEq, decide_eq_true_eq, Prod.mk.injEq, and_assoc, exists_and_left, List.cons.injEq, ix30, ix31, ix32, szOk_le, Nat.reduceLeDiff, p59, p30, p6, p12, p18, ↓ok_src, ↓src_lst, ↓src_tup, ↓src_str, ↓src_scr, ↓ok_prt, ↓ok_lcN, ↓ok_sortSet, ↓ok_sortK0, ↓to_Ng, ↓go_par, ↓ok_dmNil, ↓ok_dmV, ↓ok_dmN, ↓to_stIs0, ↓to_stIs, ↓to_stIv, ↓to_stIn, ↓ok_andV, ↓ok_orV, tru_bl, tru_lst, ↓ok_chain, wipe0, wipe1, unwipe0, unwipe1, noOwn0, noOwn1, unown_no, unown_val, ↓ok_yes, List.getD_cons_zero, List.getD_cons_succ, List.getD_nil, Bool.true_and, Bool.and_true, incr, decide_true, Nat.zero_le, Nat.le_refl, eq_int, ne_int, nn_non, nn_int, nn_str, nn_bl, nn_tup, nn_lst, nn_ref, x_tt, x_tf, x_ft, x_ff, up_no, seqK_lst, seqK_tup, seqD_lst, seqD_tup, ↓ok_err, ↓go_er, ↓go_never, ↓ok_mkS, ↓ok_mkS0, ↓ok_prop, List.dropLast_cons₂, List.dropLast_nil]
    exact ⟨_, fEq_self eqD_bls, q⟩
end DD

namespace DD
open PySem L2
theorem Bag.ext {m m' : List Ob} {n k : Nat} (h : Bag m n k) (e : Ext m m') : Bag m' n k := by
  obtain ⟨a, b, c, h1, h2⟩ := h
  exact ⟨a, b, c, e.get h1, h2⟩
/-- a draw leaves the errors as they are -/
theorem XAt.keeps {m m' : List Ob} {n j k : Nat} {C : Str} {fs : List (Str × Dv)} (h : XAt m j C fs) (hb : Bag m n k) (e : Keeps m n m') : XAt m' j C fs := by
  obtain ⟨a, b, c, hn, _⟩ := hb
  have ne : ∀ {i : Nat} {o : Ob}, m[i]? = some o → (∀ ds, o ≠ .lst ds) → i ≠ n := fun h1 h2 q => by
    subst q
    rw [hn] at h1
    cases h1
    exact h2 _ rfl
  rcases h with ⟨h1, h2⟩ | ⟨i, h1, h2⟩
  · exact .inl ⟨h1, (e.2 _ (ne h2 fun _ q => by cases q)).trans h2⟩
  · exact .inr ⟨i, (e.2 _ (ne h1 fun _ q => by cases q)).trans h1, (e.2 _ (ne h2 fun _ q => by cases q)).trans h2⟩
theorem words_t {m : List Ob} {n k : Nat} {ws : List Str} {Q : Dv → List Ob → Prop} (hb : Bag m n (k + 1)) (h0 : ws ≠ []) (hl : ws.length < 1000) (hw : ∀ w ∈ ws, PyData.canLay0 (.str w) = true) (h : ∀ w m', PyData.canLay0 (.str w) = true → Bag m' n k → Keeps m n m' → Q (.str w) m') : Ca (c__law_of [.ref n, .lst (ws.map .str)] m) Q := by
  refine of_t hb (by simpa using h0) (by simp; omega) fun d m' hd b1 k1 => ?_
  obtain ⟨w, h1, rfl⟩ := List.mem_map.mp hd
  exact h w m' (hw w h1) b1 k1
theorem ends_t {m : List Ob} {n k : Nat} {Q : Dv → List Ob → Prop} (hb : Bag m n (k + 1)) (h : ∀ w m', PyData.canLay0 (.str w) = true → Bag m' n k → Keeps m n m' → Q (.str w) m') : Ca (c__law_ends [.ref n] m) Q := by
  refine ca_def rfl ?_
  unfold B__law_ends
  simp (maxSteps := 2000000) only [↓go_seq, ↓go_next, ↓go_cont, ↓go_break, ↓go_retN, ↓go_ret, ↓go_if, ↓go_drop, ↓go_asg, ↓to_V, ↓to_tup, ↓to_cons, ↓to_nil, ↓ok_c, ↓ok_dv, ↓ok_op, ↓ok_un, ↓ok_nil, ↓ok_cons, ↓ok_tup, ↓ok_lst, ↓ok_tru, ↓ok_test, ↓ok_notB, ↓ok_andB, ↓ok_orB, ↓ok_ifE, ↓ok_notV, ↓ok_fn, ↓ok_cb, ↓ok_cm, ↓ok_var, ↓ok_slot, look_slot, look_dv, lookDv_int, lookDv_str, lookDv_bl, lookDv_non, lookDv_tup, lookDv_lst, lookDv_scr, lookDv_ty, lookDv_cls, ↓ok_lstN, push_def, ↓go_asgN, ↓to_N0, ↓ok_settle, ↓ok_store, ↓ok_opN, ↓ok_cn, ↓ok_mut, ↓go_setIx, list_slot, put_slot, ↓ok_fld, ↓go_setF, ↓ok_mt, ↓ok_mk, ↓go_for, ↓ok_rng1, ↓ok_rng2, ↓ok_enum, ↓ok_zip, ↓ok_no, ↓ok_sl, ↓ok_ite, ↓go_ite, ↓ok_ok, ↓ok_stuck, ↓go_stuck, startL, List.map_cons, List.map_nil, List.length_cons, List.length_nil, List.replicate, List.append_nil, List.nil_append, List.cons_append, List.getElem?_cons_zero, List.getElem?_cons_succ, List.set_cons_zero, List.set_cons_succ, Option.bind_some, lookAll, List.getElem?_nil, Nat.zero_add, Nat.reduceAdd, Nat.reduceSub, Nat.reduceLT, true_and, and_true, List.dropLast_singleton, List.length_singleton, if_true, if_false, Bool.not_true, Bool.not_false, Option.some.injEq, exists_eq_left', exists_eq_left, reduceCtorEq, Bool.false_eq_true, ite_true, ite_false, Option.isSome_some, ixL, ixT, ixS, at0, at1, at2, cmpI_int, add_int, sub_int, int_int, neg_int, is_non, Dv.int.injEq, Dv.bl.injEq, Dv.ref.injEq, Dv.tup.injEq, Dv.lst.injEq, Ob.lst.injEq, Ob.ins.injEq, decide_eq_true_eq, Prod.mk.injEq, and_assoc, exists_and_left, List.cons.injEq, ix30, ix31, ix32, szOk_le, Nat.reduceLeDiff, p59, p30, p6, p12, p18, ↓ok_src, ↓src_lst, ↓src_tup, ↓src_str, ↓src_scr, ↓ok_prt, ↓ok_lcN, ↓ok_sortSet, ↓ok_sortK0, ↓to_Ng, ↓go_par, ↓ok_dmNil, ↓ok_dmV, ↓ok_dmN, ↓to_stIs0, ↓to_stIs, ↓to_stIv, ↓to_stIn, ↓ok_andV, ↓ok_orV, tru_bl, tru_lst, ↓ok_chain, wipe0, wipe1, unwipe0, unwipe1, noOwn0, noOwn1, unown_no, unown_val, ↓ok_yes, List.getD_cons_zero, List.getD_cons_succ, List.getD_nil, Bool.true_and, Bool.and_true, incr, decide_true, Nat.zero_le, Nat.le_refl, eq_int, ne_int, nn_non, nn_int, nn_str, nn_bl, nn_tup, nn_lst, nn_ref, x_tt, x_tf, x_ft, x_ff, up_no, seqK_lst, seqK_tup, seqD_lst, seqD_tup, ↓ok_err, ↓go_er, ↓go_never, ↓ok_mkS, ↓ok_mkS0, ↓ok_prop, List.dropLast_cons₂, List.dropLast_nil]
  exact words_t (ws := ["last day", "next day"]) hb (by simp) (by simp) (by decide +kernel) h
theorem pnl0 {k : Nat} : ∀ d ∈ ([] : List Dv), Pn k d := fun _ h => nomatch h
theorem pnl1 {k : Nat} {a : Dv} {l : List Dv} (h : Pn k a) (t : ∀ d ∈ l, Pn k d) : ∀ d ∈ a :: l, Pn k d := fun d hd => by
  rcases List.mem_cons.mp hd with rfl | hd
  · exact h
  · exact t d hd
theorem xk_own {C : Str} (h : xk C "RowsError" = true) : xk C "RowsError" = true := h
theorem pairs_t {m : List Ob} {n k : Nat} {Q : Dv → List Ob → Prop} (hb : Bag m n (k + 100)) (q : ∀ m', Q (.bl true) m') : Ca (c__law_pairs_right [.ref n] m) Q := by
  refine ca_def rfl ?_
  unfold B__law_pairs_right
  simp (maxSteps := 2000000) only [↓go_seq, ↓go_next, ↓go_cont, ↓go_break, ↓go_retN, ↓go_ret, ↓go_if, ↓go_drop, ↓go_asg, ↓to_V, ↓to_tup, ↓to_cons, ↓to_nil, ↓ok_c, ↓ok_dv, ↓ok_op, ↓ok_un, ↓ok_nil, ↓ok_cons, ↓ok_tup, ↓ok_lst, ↓ok_tru, ↓ok_test, ↓ok_notB, ↓ok_andB, ↓ok_orB, ↓ok_ifE, ↓ok_notV, ↓ok_fn, ↓ok_cb, ↓ok_cm, ↓ok_var, ↓ok_slot, look_slot, look_dv, lookDv_int, lookDv_str, lookDv_bl, lookDv_non, lookDv_tup, lookDv_lst, lookDv_scr, lookDv_ty, lookDv_cls, ↓ok_lstN, push_def, ↓go_asgN, ↓to_N0, ↓ok_settle, ↓ok_store, ↓ok_opN, ↓ok_cn, ↓ok_mut, ↓go_setIx, list_slot, put_slot, ↓ok_fld, ↓go_setF, ↓ok_mt, ↓ok_mk, ↓go_for, ↓ok_rng1, ↓ok_rng2, ↓ok_enum, ↓ok_zip, ↓ok_no, ↓ok_sl, ↓ok_ite, ↓go_ite, ↓ok_ok, ↓ok_stuck, ↓go_stuck, startL, List.map_cons, List.map_nil, List.length_cons, List.length_nil, List.replicate, List.append_nil, List.nil_append, List.cons_append, List.getElem?_cons_zero, List.getElem?_cons_succ, List.set_cons_zero, List.set_cons_succ, Option.bind_some, lookAll, List.getElem?_nil, Nat.zero_add, Nat.reduceAdd, Nat.reduceSub, Nat.reduceLT, true_and, and_true, List.dropLast_singleton, List.length_singleton, if_true, if_false, Bool.not_true, Bool.not_false, Option.some.injEq, exists_eq_left', exists_eq_left, reduceCtorEq, Bool.false_eq_true, ite_true, ite_false, Option.isSome_some, ixL, ixT, ixS, at0, at1, at2, cmpI_int, add_int, sub_int, int_int, neg_int, is_non, Dv.int.injEq, Dv.bl.injEq, Dv.ref.injEq, Dv.tup.injEq, Dv.lst.injEq, Ob.lst.injEq, Ob.ins.injEq, decide_eq_true_eq, Prod.mk.injEq, and_assoc, exists_and_left, List.cons.injEq, ix30, ix31, ix32, szOk_le, Nat.reduceLeDiff, p59, p30, p6, p12, p18, ↓ok_src, ↓src_lst, ↓src_tup, ↓src_str, ↓src_scr, ↓ok_prt, ↓ok_lcN, ↓ok_sortSet, ↓ok_sortK0, ↓to_Ng, ↓go_par, ↓ok_dmNil, ↓ok_dmV, ↓ok_dmN, ↓to_stIs0, ↓to_stIs, ↓to_stIv, ↓to_stIn, ↓ok_andV, ↓ok_orV, tru_bl, tru_lst, ↓ok_chain, wipe0, wipe1, unwipe0, unwipe1, noOwn0, noOwn1, unown_no, unown_val, ↓ok_yes, List.getD_cons_zero, List.getD_cons_succ, List.getD_nil, Bool.true_and, Bool.and_true, incr, decide_true, Nat.zero_le, Nat.le_refl, eq_int, ne_int, nn_non, nn_int, nn_str, nn_bl, nn_tup, nn_lst, nn_ref, x_tt, x_tf, x_ft, x_ff, up_no, seqK_lst, seqK_tup, seqD_lst, seqD_tup, ↓ok_err, ↓go_er, ↓go_never, ↓ok_mkS, ↓ok_mkS0, ↓ok_prop, List.dropLast_cons₂, List.dropLast_nil]
  refine day_t (k := k + 90) hb fun a m1 b1 _ => ?_
  refine day_t (k := k + 80) b1 fun b m2 b2 _ => ?_
  refine words_t (ws := ["alpha", "", "set", "later"]) (k := k + 79) b2 (by simp) (by simp) (by decide +kernel) fun w m3 hw b3 _ => ?_
  refine value_t (k := k + 59) b3 fun v m4 hv b4 _ => ?_
  simp (maxSteps := 2000000) only [↓go_seq, ↓go_next, ↓go_cont, ↓go_break, ↓go_retN, ↓go_ret, ↓go_if, ↓go_drop, ↓go_asg, ↓to_V, ↓to_tup, ↓to_cons, ↓to_nil, ↓ok_c, ↓ok_dv, ↓ok_op, ↓ok_un, ↓ok_nil, ↓ok_cons, ↓ok_tup, ↓ok_lst, ↓ok_tru, ↓ok_test, ↓ok_notB, ↓ok_andB, ↓ok_orB, ↓ok_ifE, ↓ok_notV, ↓ok_fn, ↓ok_cb, ↓ok_cm, ↓ok_var, ↓ok_slot, look_slot, look_dv, lookDv_int, lookDv_str, lookDv_bl, lookDv_non, lookDv_tup, lookDv_lst, lookDv_scr, lookDv_ty, lookDv_cls, ↓ok_lstN, push_def, ↓go_asgN, ↓to_N0, ↓ok_settle, ↓ok_store, ↓ok_opN, ↓ok_cn, ↓ok_mut, ↓go_setIx, list_slot, put_slot, ↓ok_fld, ↓go_setF, ↓ok_mt, ↓ok_mk, ↓go_for, ↓ok_rng1, ↓ok_rng2, ↓ok_enum, ↓ok_zip, ↓ok_no, ↓ok_sl, ↓ok_ite, ↓go_ite, ↓ok_ok, ↓ok_stuck, ↓go_stuck, startL, List.map_cons, List.map_nil, List.length_cons, List.length_nil, List.replicate, List.append_nil, List.nil_append, List.cons_append, List.getElem?_cons_zero, List.getElem?_cons_succ, List.set_cons_zero, List.set_cons_succ, Option.bind_some, lookAll, List.getElem?_nil, Nat.zero_add, Nat.reduceAdd, Nat.reduceSub, Nat.reduceLT, true_and, and_true, List.dropLast_singleton, List.length_singleton, if_true, if_false, Bool.not_true, Bool.not_false, Option.some.injEq, exists_eq_left', exists_eq_left, reduceCtorEq, Bool.false_eq_true, ite_true, ite_false, Option.isSome_some, ixL, ixT, ixS, at0, at1, at2, cmpI_int, add_int, sub_int, int_int, neg_int, is_non, Dv.int.injEq, Dv.bl.injEq, Dv.ref.injEq, Dv.tup.injEq, Dv.lst.injEq, Ob.lst.injEq, Ob.ins.injEq, decide_eq_true_eq, Prod.mk.injEq, and_assoc, exists_and_left, List.cons.injEq, ix30, ix31, ix32, szOk_le, Nat.reduceLeDiff, p59, p30, p6, p12, p18, ↓ok_src, ↓src_lst, ↓src_tup, ↓src_str, ↓src_scr, ↓ok_prt, ↓ok_lcN, ↓ok_sortSet, ↓ok_sortK0, ↓to_Ng, ↓go_par, ↓ok_dmNil, ↓ok_dmV, ↓ok_dmN, ↓to_stIs0, ↓to_stIs, ↓to_stIv, ↓to_stIn, ↓ok_andV, ↓ok_orV, tru_bl, tru_lst, ↓ok_chain, wipe0, wipe1, unwipe0, unwipe1, noOwn0, noOwn1, unown_no, unown_val, ↓ok_yes, List.getD_cons_zero, List.getD_cons_succ, List.getD_nil, Bool.true_and, Bool.and_true, incr, decide_true, Nat.zero_le, Nat.le_refl, eq_int, ne_int, nn_non, nn_int, nn_str, nn_bl, nn_tup, nn_lst, nn_ref, x_tt, x_tf, x_ft, x_ff, up_no, seqK_lst, seqK_tup, seqD_lst, seqD_tup, ↓ok_err, ↓go_er, ↓go_never, ↓ok_mkS, ↓ok_mkS0, ↓ok_prop, List.dropLast_cons₂, List.dropLast_nil]
  refine value_t (k := k + 39) b4 fun u m5 hu b5 _ => ?_
  simp (maxSteps := 2000000) only [↓go_seq, ↓go_next, ↓go_cont, ↓go_break, ↓go_retN, ↓go_ret, ↓go_if, ↓go_drop, ↓go_asg, ↓to_V, ↓to_tup, ↓to_cons, ↓to_nil, ↓ok_c, ↓ok_dv, ↓ok_op, ↓ok_un, ↓ok_nil, ↓ok_cons, ↓ok_tup, ↓ok_lst, ↓ok_tru, ↓ok_test, ↓ok_notB, ↓ok_andB, ↓ok_orB, ↓ok_ifE, ↓ok_notV, ↓ok_fn, ↓ok_cb, ↓ok_cm, ↓ok_var, ↓ok_slot, look_slot, look_dv, lookDv_int, lookDv_str, lookDv_bl, lookDv_non, lookDv_tup, lookDv_lst, lookDv_scr, lookDv_ty, lookDv_cls, ↓ok_lstN, push_def, ↓go_asgN, ↓to_N0, ↓ok_settle, ↓ok_store, ↓ok_opN, ↓ok_cn, ↓ok_mut, ↓go_setIx, list_slot, put_slot, ↓ok_fld, ↓go_setF, ↓ok_mt, ↓ok_mk, ↓go_for, ↓ok_rng1, ↓ok_rng2, ↓ok_enum, ↓ok_zip, ↓ok_no, ↓ok_sl, ↓ok_ite, ↓go_ite, ↓ok_ok, ↓ok_stuck, ↓go_stuck, startL, List.map_cons, List.map_nil, List.length_cons, List.length_nil, List.replicate, List.append_nil, List.nil_append, List.cons_append, List.getElem?_cons_zero, List.getElem?_cons_succ, List.set_cons_zero, List.set_cons_succ, Option.bind_some, lookAll, List.getElem?_nil, Nat.zero_add, Nat.reduceAdd, Nat.reduceSub, Nat.reduceLT, true_and, and_true, List.dropLast_singleton, List.length_singleton, if_true, if_false, Bool.not_true, Bool.not_false, Option.some.injEq, exists_eq_left', exists_eq_left, reduceCtorEq, Bool.false_eq_true, ite_true, ite_false, Option.isSome_some, ixL, ixT, ixS, at0, at1, at2, cmpI_int, add_int, sub_int, int_int, neg_int, is_non, Dv.int.injEq, Dv.bl.injEq, Dv.ref.injEq, Dv.tup.injEq, Dv.lst.injEq, Ob.lst.injEq, Ob.ins.injEq, decide_eq_true_eq, Prod.mk.injEq, and_assoc, exists_and_left, List.cons.injEq, ix30, ix31, ix32, szOk_le, Nat.reduceLeDiff, p59, p30, p6, p12, p18, ↓ok_src, ↓src_lst, ↓src_tup, ↓src_str, ↓src_scr, ↓ok_prt, ↓ok_lcN, ↓ok_sortSet, ↓ok_sortK0, ↓to_Ng, ↓go_par, ↓ok_dmNil, ↓ok_dmV, ↓ok_dmN, ↓to_stIs0, ↓to_stIs, ↓to_stIv, ↓to_stIn, ↓ok_andV, ↓ok_orV, tru_bl, tru_lst, ↓ok_chain, wipe0, wipe1, unwipe0, unwipe1, noOwn0, noOwn1, unown_no, unown_val, ↓ok_yes, List.getD_cons_zero, List.getD_cons_succ, List.getD_nil, Bool.true_and, Bool.and_true, incr, decide_true, Nat.zero_le, Nat.le_refl, eq_int, ne_int, nn_non, nn_int, nn_str, nn_bl, nn_tup, nn_lst, nn_ref, x_tt, x_tf, x_ft, x_ff, up_no, seqK_lst, seqK_tup, seqD_lst, seqD_tup, ↓ok_err, ↓go_er, ↓go_never, ↓ok_mkS, ↓ok_mkS0, ↓ok_prop, List.dropLast_cons₂, List.dropLast_nil, ↓ok_mkX]
  refine mk_EmptyRow fun m6 e6 x6 => ?_
  simp (maxSteps := 2000000) only [↓go_seq, ↓go_next, ↓go_cont, ↓go_break, ↓go_retN, ↓go_ret, ↓go_if, ↓go_drop, ↓go_asg, ↓to_V, ↓to_tup, ↓to_cons, ↓to_nil, ↓ok_c, ↓ok_dv, ↓ok_op, ↓ok_un, ↓ok_nil, ↓ok_cons, ↓ok_tup, ↓ok_lst, ↓ok_tru, ↓ok_test, ↓ok_notB, ↓ok_andB, ↓ok_orB, ↓ok_ifE, ↓ok_notV, ↓ok_fn, ↓ok_cb, ↓ok_cm, ↓ok_var, ↓ok_slot, look_slot, look_dv, lookDv_int, lookDv_str, lookDv_bl, lookDv_non, lookDv_tup, lookDv_lst, lookDv_scr, lookDv_ty, lookDv_cls, ↓ok_lstN, push_def, ↓go_asgN, ↓to_N0, ↓ok_settle, ↓ok_store, ↓ok_opN, ↓ok_cn, ↓ok_mut, ↓go_setIx, list_slot, put_slot, ↓ok_fld, ↓go_setF, ↓ok_mt, ↓ok_mk, ↓go_for, ↓ok_rng1, ↓ok_rng2, ↓ok_enum, ↓ok_zip, ↓ok_no, ↓ok_sl, ↓ok_ite, ↓go_ite, ↓ok_ok, ↓ok_stuck, ↓go_stuck, startL, List.map_cons, List.map_nil, List.length_cons, List.length_nil, List.replicate, List.append_nil, List.nil_append, List.cons_append, List.getElem?_cons_zero, List.getElem?_cons_succ, List.set_cons_zero, List.set_cons_succ, Option.bind_some, lookAll, List.getElem?_nil, Nat.zero_add, Nat.reduceAdd, Nat.reduceSub, Nat.reduceLT, true_and, and_true, List.dropLast_singleton, List.length_singleton, if_true, if_false, Bool.not_true, Bool.not_false, Option.some.injEq, exists_eq_left', exists_eq_left, reduceCtorEq, Bool.false_eq_true, ite_true, ite_false, Option.isSome_some, ixL, ixT, ixS, at0, at1, at2, cmpI_int, add_int, sub_int, int_int, neg_int, is_non, Dv.int.injEq, Dv.bl.injEq, Dv.ref.injEq, Dv.tup.injEq, Dv.lst.injEq, Ob.lst.injEq, Ob.ins.injEq, decide_eq_true_eq, Prod.mk.injEq, and_assoc, exists_and_left, List.cons.injEq, ix30, ix31, ix32, szOk_le, Nat.reduceLeDiff, p59, p30, p6, p12, p18, ↓ok_src, ↓src_lst, ↓src_tup, ↓src_str, ↓src_scr, ↓ok_prt, ↓ok_lcN, ↓ok_sortSet, ↓ok_sortK0, ↓to_Ng, ↓go_par, ↓ok_dmNil, ↓ok_dmV, ↓ok_dmN, ↓to_stIs0, ↓to_stIs, ↓to_stIv, ↓to_stIn, ↓ok_andV, ↓ok_orV, tru_bl, tru_lst, ↓ok_chain, wipe0, wipe1, unwipe0, unwipe1, noOwn0, noOwn1, unown_no, unown_val, ↓ok_yes, List.getD_cons_zero, List.getD_cons_succ, List.getD_nil, Bool.true_and, Bool.and_true, incr, decide_true, Nat.zero_le, Nat.le_refl, eq_int, ne_int, nn_non, nn_int, nn_str, nn_bl, nn_tup, nn_lst, nn_ref, x_tt, x_tf, x_ft, x_ff, up_no, seqK_lst, seqK_tup, seqD_lst, seqD_tup, ↓ok_err, ↓go_er, ↓go_never, ↓ok_mkS, ↓ok_mkS0, ↓ok_prop, List.dropLast_cons₂, List.dropLast_nil, ↓ok_mkX]
  refine mk_EmptyStretch fun m7 e7 x7 => ?_
  simp (maxSteps := 2000000) only [↓go_seq, ↓go_next, ↓go_cont, ↓go_break, ↓go_retN, ↓go_ret, ↓go_if, ↓go_drop, ↓go_asg, ↓to_V, ↓to_tup, ↓to_cons, ↓to_nil, ↓ok_c, ↓ok_dv, ↓ok_op, ↓ok_un, ↓ok_nil, ↓ok_cons, ↓ok_tup, ↓ok_lst, ↓ok_tru, ↓ok_test, ↓ok_notB, ↓ok_andB, ↓ok_orB, ↓ok_ifE, ↓ok_notV, ↓ok_fn, ↓ok_cb, ↓ok_cm, ↓ok_var, ↓ok_slot, look_slot, look_dv, lookDv_int, lookDv_str, lookDv_bl, lookDv_non, lookDv_tup, lookDv_lst, lookDv_scr, lookDv_ty, lookDv_cls, ↓ok_lstN, push_def, ↓go_asgN, ↓to_N0, ↓ok_settle, ↓ok_store, ↓ok_opN, ↓ok_cn, ↓ok_mut, ↓go_setIx, list_slot, put_slot, ↓ok_fld, ↓go_setF, ↓ok_mt, ↓ok_mk, ↓go_for, ↓ok_rng1, ↓ok_rng2, ↓ok_enum, ↓ok_zip, ↓ok_no, ↓ok_sl, ↓ok_ite, ↓go_ite, ↓ok_ok, ↓ok_stuck, ↓go_stuck, startL, List.map_cons, List.map_nil, List.length_cons, List.length_nil, List.replicate, List.append_nil, List.nil_append, List.cons_append, List.getElem?_cons_zero, List.getElem?_cons_succ, List.set_cons_zero, List.set_cons_succ, Option.bind_some, lookAll, List.getElem?_nil, Nat.zero_add, Nat.reduceAdd, Nat.reduceSub, Nat.reduceLT, true_and, and_true, List.dropLast_singleton, List.length_singleton, if_true, if_false, Bool.not_true, Bool.not_false, Option.some.injEq, exists_eq_left', exists_eq_left, reduceCtorEq, Bool.false_eq_true, ite_true, ite_false, Option.isSome_some, ixL, ixT, ixS, at0, at1, at2, cmpI_int, add_int, sub_int, int_int, neg_int, is_non, Dv.int.injEq, Dv.bl.injEq, Dv.ref.injEq, Dv.tup.injEq, Dv.lst.injEq, Ob.lst.injEq, Ob.ins.injEq, decide_eq_true_eq, Prod.mk.injEq, and_assoc, exists_and_left, List.cons.injEq, ix30, ix31, ix32, szOk_le, Nat.reduceLeDiff, p59, p30, p6, p12, p18, ↓ok_src, ↓src_lst, ↓src_tup, ↓src_str, ↓src_scr, ↓ok_prt, ↓ok_lcN, ↓ok_sortSet, ↓ok_sortK0, ↓to_Ng, ↓go_par, ↓ok_dmNil, ↓ok_dmV, ↓ok_dmN, ↓to_stIs0, ↓to_stIs, ↓to_stIv, ↓to_stIn, ↓ok_andV, ↓ok_orV, tru_bl, tru_lst, ↓ok_chain, wipe0, wipe1, unwipe0, unwipe1, noOwn0, noOwn1, unown_no, unown_val, ↓ok_yes, List.getD_cons_zero, List.getD_cons_succ, List.getD_nil, Bool.true_and, Bool.and_true, incr, decide_true, Nat.zero_le, Nat.le_refl, eq_int, ne_int, nn_non, nn_int, nn_str, nn_bl, nn_tup, nn_lst, nn_ref, x_tt, x_tf, x_ft, x_ff, up_no, seqK_lst, seqK_tup, seqD_lst, seqD_tup, ↓ok_err, ↓go_er, ↓go_never, ↓ok_mkS, ↓ok_mkS0, ↓ok_prop, List.dropLast_cons₂, List.dropLast_nil, ↓ok_mkX]
  refine mk_Clash fun m8 e8 x8 => ?_
  simp (maxSteps := 2000000) only [↓go_seq, ↓go_next, ↓go_cont, ↓go_break, ↓go_retN, ↓go_ret, ↓go_if, ↓go_drop, ↓go_asg, ↓to_V, ↓to_tup, ↓to_cons, ↓to_nil, ↓ok_c, ↓ok_dv, ↓ok_op, ↓ok_un, ↓ok_nil, ↓ok_cons, ↓ok_tup, ↓ok_lst, ↓ok_tru, ↓ok_test, ↓ok_notB, ↓ok_andB, ↓ok_orB, ↓ok_ifE, ↓ok_notV, ↓ok_fn, ↓ok_cb, ↓ok_cm, ↓ok_var, ↓ok_slot, look_slot, look_dv, lookDv_int, lookDv_str, lookDv_bl, lookDv_non, lookDv_tup, lookDv_lst, lookDv_scr, lookDv_ty, lookDv_cls, ↓ok_lstN, push_def, ↓go_asgN, ↓to_N0, ↓ok_settle, ↓ok_store, ↓ok_opN, ↓ok_cn, ↓ok_mut, ↓go_setIx, list_slot, put_slot, ↓ok_fld, ↓go_setF, ↓ok_mt, ↓ok_mk, ↓go_for, ↓ok_rng1, ↓ok_rng2, ↓ok_enum, ↓ok_zip, ↓ok_no, ↓ok_sl, ↓ok_ite, ↓go_ite, ↓ok_ok, ↓ok_stuck, ↓go_stuck, startL, List.map_cons, List.map_nil, List.length_cons, List.length_nil, List.replicate, List.append_nil, List.nil_append, List.cons_append, List.getElem?_cons_zero, List.getElem?_cons_succ, List.set_cons_zero, List.set_cons_succ, Option.bind_some, lookAll, List.getElem?_nil, Nat.zero_add, Nat.reduceAdd, Nat.reduceSub, Nat.reduceLT, true_and, and_true, List.dropLast_singleton, List.length_singleton, if_true, if_false, Bool.not_true, Bool.not_false, Option.some.injEq, exists_eq_left', exists_eq_left, reduceCtorEq, Bool.false_eq_true, ite_true, ite_false, Option.isSome_some, ixL, ixT, ixS, at0, at1, at2, cmpI_int, add_int, sub_int, int_int, neg_int, is_non, Dv.int.injEq, Dv.bl.injEq, Dv.ref.injEq, Dv.tup.injEq, Dv.lst.injEq, Ob.lst.injEq, Ob.ins.injEq, decide_eq_true_eq, Prod.mk.injEq, and_assoc, exists_and_left, List.cons.injEq, ix30, ix31, ix32, szOk_le, Nat.reduceLeDiff, p59, p30, p6, p12, p18, ↓ok_src, ↓src_lst, ↓src_tup, ↓src_str, ↓src_scr, ↓ok_prt, ↓ok_lcN, ↓ok_sortSet, ↓ok_sortK0, ↓to_Ng, ↓go_par, ↓ok_dmNil, ↓ok_dmV, ↓ok_dmN, ↓to_stIs0, ↓to_stIs, ↓to_stIv, ↓to_stIn, ↓ok_andV, ↓ok_orV, tru_bl, tru_lst, ↓ok_chain, wipe0, wipe1, unwipe0, unwipe1, noOwn0, noOwn1, unown_no, unown_val, ↓ok_yes, List.getD_cons_zero, List.getD_cons_succ, List.getD_nil, Bool.true_and, Bool.and_true, incr, decide_true, Nat.zero_le, Nat.le_refl, eq_int, ne_int, nn_non, nn_int, nn_str, nn_bl, nn_tup, nn_lst, nn_ref, x_tt, x_tf, x_ft, x_ff, up_no, seqK_lst, seqK_tup, seqD_lst, seqD_tup, ↓ok_err, ↓go_er, ↓go_never, ↓ok_mkS, ↓ok_mkS0, ↓ok_prop, List.dropLast_cons₂, List.dropLast_nil, ↓ok_mkX]
  refine mk_TwoRows fun m9 e9 x9 => ?_
  simp (maxSteps := 2000000) only [↓go_seq, ↓go_next, ↓go_cont, ↓go_break, ↓go_retN, ↓go_ret, ↓go_if, ↓go_drop, ↓go_asg, ↓to_V, ↓to_tup, ↓to_cons, ↓to_nil, ↓ok_c, ↓ok_dv, ↓ok_op, ↓ok_un, ↓ok_nil, ↓ok_cons, ↓ok_tup, ↓ok_lst, ↓ok_tru, ↓ok_test, ↓ok_notB, ↓ok_andB, ↓ok_orB, ↓ok_ifE, ↓ok_notV, ↓ok_fn, ↓ok_cb, ↓ok_cm, ↓ok_var, ↓ok_slot, look_slot, look_dv, lookDv_int, lookDv_str, lookDv_bl, lookDv_non, lookDv_tup, lookDv_lst, lookDv_scr, lookDv_ty, lookDv_cls, ↓ok_lstN, push_def, ↓go_asgN, ↓to_N0, ↓ok_settle, ↓ok_store, ↓ok_opN, ↓ok_cn, ↓ok_mut, ↓go_setIx, list_slot, put_slot, ↓ok_fld, ↓go_setF, ↓ok_mt, ↓ok_mk, ↓go_for, ↓ok_rng1, ↓ok_rng2, ↓ok_enum, ↓ok_zip, ↓ok_no, ↓ok_sl, ↓ok_ite, ↓go_ite, ↓ok_ok, ↓ok_stuck, ↓go_stuck, startL, List.map_cons, List.map_nil, List.length_cons, List.length_nil, List.replicate, List.append_nil, List.nil_append, List.cons_append, List.getElem?_cons_zero, List.getElem?_cons_succ, List.set_cons_zero, List.set_cons_succ, Option.bind_some, lookAll, List.getElem?_nil, Nat.zero_add, Nat.reduceAdd, Nat.reduceSub, Nat.reduceLT, true_and, and_true, List.dropLast_singleton, List.length_singleton, if_true, if_false, Bool.not_true, Bool.not_false, Option.some.injEq, exists_eq_left', exists_eq_left, reduceCtorEq, Bool.false_eq_true, ite_true, ite_false, Option.isSome_some, ixL, ixT, ixS, at0, at1, at2, cmpI_int, add_int, sub_int, int_int, neg_int, is_non, Dv.int.injEq, Dv.bl.injEq, Dv.ref.injEq, Dv.tup.injEq, Dv.lst.injEq, Ob.lst.injEq, Ob.ins.injEq, decide_eq_true_eq, Prod.mk.injEq, and_assoc, exists_and_left, List.cons.injEq, ix30, ix31, ix32, szOk_le, Nat.reduceLeDiff, p59, p30, p6, p12, p18, ↓ok_src, ↓src_lst, ↓src_tup, ↓src_str, ↓src_scr, ↓ok_prt, ↓ok_lcN, ↓ok_sortSet, ↓ok_sortK0, ↓to_Ng, ↓go_par, ↓ok_dmNil, ↓ok_dmV, ↓ok_dmN, ↓to_stIs0, ↓to_stIs, ↓to_stIv, ↓to_stIn, ↓ok_andV, ↓ok_orV, tru_bl, tru_lst, ↓ok_chain, wipe0, wipe1, unwipe0, unwipe1, noOwn0, noOwn1, unown_no, unown_val, ↓ok_yes, List.getD_cons_zero, List.getD_cons_succ, List.getD_nil, Bool.true_and, Bool.and_true, incr, decide_true, Nat.zero_le, Nat.le_refl, eq_int, ne_int, nn_non, nn_int, nn_str, nn_bl, nn_tup, nn_lst, nn_ref, x_tt, x_tf, x_ft, x_ff, up_no, seqK_lst, seqK_tup, seqD_lst, seqD_tup, ↓ok_err, ↓go_er, ↓go_never, ↓ok_mkS, ↓ok_mkS0, ↓ok_prop, List.dropLast_cons₂, List.dropLast_nil, ↓ok_mkX]
  have b9 : Bag m9 n (k + 39) := (((b5.ext e6).ext e7).ext e8).ext e9
  refine take_t (k := k + 38) b9 (by decide) (by decide) fun r m10 r1 r2 b10 k10 => ?_
  simp (maxSteps := 2000000) only [↓go_seq, ↓go_next, ↓go_cont, ↓go_break, ↓go_retN, ↓go_ret, ↓go_if, ↓go_drop, ↓go_asg, ↓to_V, ↓to_tup, ↓to_cons, ↓to_nil, ↓ok_c, ↓ok_dv, ↓ok_op, ↓ok_un, ↓ok_nil, ↓ok_cons, ↓ok_tup, ↓ok_lst, ↓ok_tru, ↓ok_test, ↓ok_notB, ↓ok_andB, ↓ok_orB, ↓ok_ifE, ↓ok_notV, ↓ok_fn, ↓ok_cb, ↓ok_cm, ↓ok_var, ↓ok_slot, look_slot, look_dv, lookDv_int, lookDv_str, lookDv_bl, lookDv_non, lookDv_tup, lookDv_lst, lookDv_scr, lookDv_ty, lookDv_cls, ↓ok_lstN, push_def, ↓go_asgN, ↓to_N0, ↓ok_settle, ↓ok_store, ↓ok_opN, ↓ok_cn, ↓ok_mut, ↓go_setIx, list_slot, put_slot, ↓ok_fld, ↓go_setF, ↓ok_mt, ↓ok_mk, ↓go_for, ↓ok_rng1, ↓ok_rng2, ↓ok_enum, ↓ok_zip, ↓ok_no, ↓ok_sl, ↓ok_ite, ↓go_ite, ↓ok_ok, ↓ok_stuck, ↓go_stuck, startL, List.map_cons, List.map_nil, List.length_cons, List.length_nil, List.replicate, List.append_nil, List.nil_append, List.cons_append, List.getElem?_cons_zero, List.getElem?_cons_succ, List.set_cons_zero, List.set_cons_succ, Option.bind_some, lookAll, List.getElem?_nil, Nat.zero_add, Nat.reduceAdd, Nat.reduceSub, Nat.reduceLT, true_and, and_true, List.dropLast_singleton, List.length_singleton, if_true, if_false, Bool.not_true, Bool.not_false, Option.some.injEq, exists_eq_left', exists_eq_left, reduceCtorEq, Bool.false_eq_true, ite_true, ite_false, Option.isSome_some, ixL, ixT, ixS, at0, at1, at2, cmpI_int, add_int, sub_int, int_int, neg_int, is_non, Dv.int.injEq, Dv.bl.injEq, Dv.ref.injEq, Dv.tup.injEq, Dv.lst.injEq, Ob.lst.injEq, Ob.ins.injEq, decide_eq_true_eq, Prod.mk.injEq, and_assoc, exists_and_left, List.cons.injEq, ix30, ix31, ix32, szOk_le, Nat.reduceLeDiff, p59, p30, p6, p12, p18, ↓ok_src, ↓src_lst, ↓src_tup, ↓src_str, ↓src_scr, ↓ok_prt, ↓ok_lcN, ↓ok_sortSet, ↓ok_sortK0, ↓to_Ng, ↓go_par, ↓ok_dmNil, ↓ok_dmV, ↓ok_dmN, ↓to_stIs0, ↓to_stIs, ↓to_stIv, ↓to_stIn, ↓ok_andV, ↓ok_orV, tru_bl, tru_lst, ↓ok_chain, wipe0, wipe1, unwipe0, unwipe1, noOwn0, noOwn1, unown_no, unown_val, ↓ok_yes, List.getD_cons_zero, List.getD_cons_succ, List.getD_nil, Bool.true_and, Bool.and_true, incr, decide_true, Nat.zero_le, Nat.le_refl, eq_int, ne_int, nn_non, nn_int, nn_str, nn_bl, nn_tup, nn_lst, nn_ref, x_tt, x_tf, x_ft, x_ff, up_no, seqK_lst, seqK_tup, seqD_lst, seqD_tup, ↓ok_err, ↓go_er, ↓go_never, ↓ok_mkS, ↓ok_mkS0, ↓ok_prop, List.dropLast_cons₂, List.dropLast_nil, ↓ok_mkX]
  refine mk_Refused fun m11 e11 x11 => ?_
  have x6' := (((x6.ext e7).ext e8).ext e9 |>.keeps b9 k10).ext e11
  have x7' := ((x7.ext e8).ext e9 |>.keeps b9 k10).ext e11
  have x8' := (x8.ext e9 |>.keeps b9 k10).ext e11
  have x9' := (x9.keeps b9 k10).ext e11
  have g1 : xget (ctOf xflds) m11 m5.length "first" = some (.int a) := x6'.get ct_EmptyRow_first
  have g2 : xget (ctOf xflds) m11 m5.length "end" = some (.int b) := x6'.get ct_EmptyRow_end
  have g3 : xget (ctOf xflds) m11 m6.length "first" = some (.int a) := x7'.get ct_EmptyStretch_first
  have g4 : xget (ctOf xflds) m11 m6.length "last" = some (.int b) := x7'.get ct_EmptyStretch_last
  have g5 : xget (ctOf xflds) m11 m7.length "earlier" = some (.tup [.int a, .non, v]) := x8'.get ct_Clash_earlier
  have g6 : xget (ctOf xflds) m11 m7.length "later" = some (.tup [.int b, .int (b + 3), u]) := x8'.get ct_Clash_later
  have g7 : xget (ctOf xflds) m11 m8.length "earlier" = some (.tup [.int a, .non, v]) := x9'.get ct_TwoRows_earlier
  have g8 : xget (ctOf xflds) m11 m8.length "later" = some (.tup [.int b, .int (b + 3), u]) := x9'.get ct_TwoRows_later
  have g9 : xget (ctOf xflds) m11 m10.length "index" = some (.int (r - a)) := x11.get ct_Refused_index
  have g10 : xget (ctOf xflds) m11 m10.length "name" = some (.str w) := x11.get ct_Refused_name
  have g11 : xget (ctOf xflds) m11 m10.length "why" = some (.str "ends") := x11.get ct_Refused_why
  have f1 : fNe (.lst [.int a, .int b, .int a, .int b]) (.lst [.int a, .int b, .int a, .int b]) = some (.bl false) := fNe_self (eqD_pnself (k := 1) (.lst (pnl1 .int (pnl1 .int (pnl1 .int (pnl1 .int pnl0))))))
  have p1 : Pn 1 (.tup [.int a, .non, v]) := .tup (pnl1 .int (pnl1 .non (pnl1 hv.pn pnl0)))
  have p2 : Pn 1 (.tup [.int b, .int (b + 3), u]) := .tup (pnl1 .int (pnl1 .int (pnl1 hu.pn pnl0)))
  have f2 : fNe (.lst [.tup [.int a, .non, v], .tup [.int b, .int (b + 3), u], .tup [.int a, .non, v], .tup [.int b, .int (b + 3), u]]) (.lst [.tup [.int a, .non, v], .tup [.int b, .int (b + 3), u], .tup [.int a, .non, v], .tup [.int b, .int (b + 3), u]]) = some (.bl false) := fNe_self (eqD_pnself (k := 2) (.lst (pnl1 p1 (pnl1 p2 (pnl1 p1 (pnl1 p2 pnl0))))))
  have hin : decide (0 ≤ r - a + a ∧ r - a + a < 9) = true := decide_eq_true (by omega)
  have f3 : fNe (.lst [.bl true, .str w, .str "ends"]) (.lst [.bl true, .str w, .str "ends"]) = some (.bl false) := by
    have he : PyData.canLay0 (.str "ends") = true := by decide +kernel
    refine fNe_self (eqD_self (p := .list [.bool true, .str w, .str "ends"]) rfl ?_ ?_)
    · show (PyData.canLay0 (.list _) && decide (PyData.depth (.list _) ≤ 64)) = true
      have e1 : PyData.canLay0 (.bool true) = true := by simp [PyData.canLay0]
      simp only [PyData.canLay0, PyData.canLayAll0] at *
      simp [PyData.depth, PyData.depthAll, hw, he]
    · simp [PyData.eqv, PyData.eqvAll]
  simp (maxSteps := 2000000) only [↓go_seq, ↓go_next, ↓go_cont, ↓go_break, ↓go_retN, ↓go_ret, ↓go_if, ↓go_drop, ↓go_asg, ↓to_V, ↓to_tup, ↓to_cons, ↓to_nil, ↓ok_c, ↓ok_dv, ↓ok_op, ↓ok_un, ↓ok_nil, ↓ok_cons, ↓ok_tup, ↓ok_lst, ↓ok_tru, ↓ok_test, ↓ok_notB, ↓ok_andB, ↓ok_orB, ↓ok_ifE, ↓ok_notV, ↓ok_fn, ↓ok_cb, ↓ok_cm, ↓ok_var, ↓ok_slot, look_slot, look_dv, lookDv_int, lookDv_str, lookDv_bl, lookDv_non, lookDv_tup, lookDv_lst, lookDv_scr, lookDv_ty, lookDv_cls, ↓ok_lstN, push_def, ↓go_asgN, ↓to_N0, ↓ok_settle, ↓ok_store, ↓ok_opN, ↓ok_cn, ↓ok_mut, ↓go_setIx, list_slot, put_slot, ↓ok_fld, ↓go_setF, ↓ok_mt, ↓ok_mk, ↓go_for, ↓ok_rng1, ↓ok_rng2, ↓ok_enum, ↓ok_zip, ↓ok_no, ↓ok_sl, ↓ok_ite, ↓go_ite, ↓ok_ok, ↓ok_stuck, ↓go_stuck, startL, List.map_cons, List.map_nil, List.length_cons, List.length_nil, List.replicate, List.append_nil, List.nil_append, List.cons_append, List.getElem?_cons_zero, List.getElem?_cons_succ, List.set_cons_zero, List.set_cons_succ, Option.bind_some, lookAll, List.getElem?_nil, Nat.zero_add, Nat.reduceAdd, Nat.reduceSub, Nat.reduceLT, true_and, and_true, List.dropLast_singleton, List.length_singleton, if_true, if_false, Bool.not_true, Bool.not_false, Option.some.injEq, exists_eq_left', exists_eq_left, reduceCtorEq, Bool.false_eq_true, ite_true, ite_false, Option.isSome_some, ixL, ixT, ixS, at0, at1, at2, cmpI_int, add_int, sub_int, int_int, neg_int, is_non, Dv.int.injEq, Dv.bl.injEq, Dv.ref.injEq, Dv.tup.injEq, Dv.lst.injEq, Ob.lst.injEq, Ob.ins.injEq, decide_eq_true_eq, Prod.mk.injEq, and_assoc, exists_and_left, List.cons.injEq, ix30, ix31, ix32, szOk_le, Nat.reduceLeDiff, p59, p30, p6, p12, p18, ↓ok_src, ↓src_lst, ↓src_tup, ↓src_str, ↓src_scr, ↓ok_prt, ↓ok_lcN, ↓ok_sortSet, ↓ok_sortK0, ↓to_Ng, ↓go_par, ↓ok_dmNil, ↓ok_dmV, ↓ok_dmN, ↓to_stIs0, ↓to_stIs, ↓to_stIv, ↓to_stIn, ↓ok_andV, ↓ok_orV, tru_bl, tru_lst, ↓ok_chain, wipe0, wipe1, unwipe0, unwipe1, noOwn0, noOwn1, unown_no, unown_val, ↓ok_yes, List.getD_cons_zero, List.getD_cons_succ, List.getD_nil, Bool.true_and, Bool.and_true, incr, decide_true, Nat.zero_le, Nat.le_refl, eq_int, ne_int, nn_non, nn_int, nn_str, nn_bl, nn_tup, nn_lst, nn_ref, x_tt, x_tf, x_ft, x_ff, up_no, seqK_lst, seqK_tup, seqD_lst, seqD_tup, ↓ok_err, ↓go_er, ↓go_never, ↓ok_mkS, ↓ok_mkS0, ↓ok_prop, List.dropLast_cons₂, List.dropLast_nil, ↓ok_xo, ↓ok_inR, g1, g2, g3, g4, g5, g6, g7, g8, g9, g10, g11, f1, f2, f3, hin]
  refine is_own_t x6' in_EmptyRow (by decide +kernel) (by decide +kernel) ?_
  try simp (maxSteps := 2000000) only [↓go_seq, ↓go_next, ↓go_cont, ↓go_break, ↓go_retN, ↓go_ret, ↓go_if, ↓go_drop, ↓go_asg, ↓to_V, ↓to_tup, ↓to_cons, ↓to_nil, ↓ok_c, ↓ok_dv, ↓ok_op, ↓ok_un, ↓ok_nil, ↓ok_cons, ↓ok_tup, ↓ok_lst, ↓ok_tru, ↓ok_test, ↓ok_notB, ↓ok_andB, ↓ok_orB, ↓ok_ifE, ↓ok_notV, ↓ok_fn, ↓ok_cb, ↓ok_cm, ↓ok_var, ↓ok_slot, look_slot, look_dv, lookDv_int, lookDv_str, lookDv_bl, lookDv_non, lookDv_tup, lookDv_lst, lookDv_scr, lookDv_ty, lookDv_cls, ↓ok_lstN, push_def, ↓go_asgN, ↓to_N0, ↓ok_settle, ↓ok_store, ↓ok_opN, ↓ok_cn, ↓ok_mut, ↓go_setIx, list_slot, put_slot, ↓ok_fld, ↓go_setF, ↓ok_mt, ↓ok_mk, ↓go_for, ↓ok_rng1, ↓ok_rng2, ↓ok_enum, ↓ok_zip, ↓ok_no, ↓ok_sl, ↓ok_ite, ↓go_ite, ↓ok_ok, ↓ok_stuck, ↓go_stuck, startL, List.map_cons, List.map_nil, List.length_cons, List.length_nil, List.replicate, List.append_nil, List.nil_append, List.cons_append, List.getElem?_cons_zero, List.getElem?_cons_succ, List.set_cons_zero, List.set_cons_succ, Option.bind_some, lookAll, List.getElem?_nil, Nat.zero_add, Nat.reduceAdd, Nat.reduceSub, Nat.reduceLT, true_and, and_true, List.dropLast_singleton, List.length_singleton, if_true, if_false, Bool.not_true, Bool.not_false, Option.some.injEq, exists_eq_left', exists_eq_left, reduceCtorEq, Bool.false_eq_true, ite_true, ite_false, Option.isSome_some, ixL, ixT, ixS, at0, at1, at2, cmpI_int, add_int, sub_int, int_int, neg_int, is_non, Dv.int.injEq, Dv.bl.injEq, Dv.ref.injEq, Dv.tup.injEq, Dv.lst.injEq, Ob.lst.injEq, Ob.ins.injEq, decide_eq_true_eq, Prod.mk.injEq, and_assoc, exists_and_left, List.cons.injEq, ix30, ix31, ix32, szOk_le, Nat.reduceLeDiff, p59, p30, p6, p12, p18, ↓ok_src, ↓src_lst, ↓src_tup, ↓src_str, ↓src_scr, ↓ok_prt, ↓ok_lcN, ↓ok_sortSet, ↓ok_sortK0, ↓to_Ng, ↓go_par, ↓ok_dmNil, ↓ok_dmV, ↓ok_dmN, ↓to_stIs0, ↓to_stIs, ↓to_stIv, ↓to_stIn, ↓ok_andV, ↓ok_orV, tru_bl, tru_lst, ↓ok_chain, wipe0, wipe1, unwipe0, unwipe1, noOwn0, noOwn1, unown_no, unown_val, ↓ok_yes, List.getD_cons_zero, List.getD_cons_succ, List.getD_nil, Bool.true_and, Bool.and_true, incr, decide_true, Nat.zero_le, Nat.le_refl, eq_int, ne_int, nn_non, nn_int, nn_str, nn_bl, nn_tup, nn_lst, nn_ref, x_tt, x_tf, x_ft, x_ff, up_no, seqK_lst, seqK_tup, seqD_lst, seqD_tup, ↓ok_err, ↓go_er, ↓go_never, ↓ok_mkS, ↓ok_mkS0, ↓ok_prop, List.dropLast_cons₂, List.dropLast_nil]
  refine is_own_t x7' in_EmptyStretch (by decide +kernel) (by decide +kernel) ?_
  try simp (maxSteps := 2000000) only [↓go_seq, ↓go_next, ↓go_cont, ↓go_break, ↓go_retN, ↓go_ret, ↓go_if, ↓go_drop, ↓go_asg, ↓to_V, ↓to_tup, ↓to_cons, ↓to_nil, ↓ok_c, ↓ok_dv, ↓ok_op, ↓ok_un, ↓ok_nil, ↓ok_cons, ↓ok_tup, ↓ok_lst, ↓ok_tru, ↓ok_test, ↓ok_notB, ↓ok_andB, ↓ok_orB, ↓ok_ifE, ↓ok_notV, ↓ok_fn, ↓ok_cb, ↓ok_cm, ↓ok_var, ↓ok_slot, look_slot, look_dv, lookDv_int, lookDv_str, lookDv_bl, lookDv_non, lookDv_tup, lookDv_lst, lookDv_scr, lookDv_ty, lookDv_cls, ↓ok_lstN, push_def, ↓go_asgN, ↓to_N0, ↓ok_settle, ↓ok_store, ↓ok_opN, ↓ok_cn, ↓ok_mut, ↓go_setIx, list_slot, put_slot, ↓ok_fld, ↓go_setF, ↓ok_mt, ↓ok_mk, ↓go_for, ↓ok_rng1, ↓ok_rng2, ↓ok_enum, ↓ok_zip, ↓ok_no, ↓ok_sl, ↓ok_ite, ↓go_ite, ↓ok_ok, ↓ok_stuck, ↓go_stuck, startL, List.map_cons, List.map_nil, List.length_cons, List.length_nil, List.replicate, List.append_nil, List.nil_append, List.cons_append, List.getElem?_cons_zero, List.getElem?_cons_succ, List.set_cons_zero, List.set_cons_succ, Option.bind_some, lookAll, List.getElem?_nil, Nat.zero_add, Nat.reduceAdd, Nat.reduceSub, Nat.reduceLT, true_and, and_true, List.dropLast_singleton, List.length_singleton, if_true, if_false, Bool.not_true, Bool.not_false, Option.some.injEq, exists_eq_left', exists_eq_left, reduceCtorEq, Bool.false_eq_true, ite_true, ite_false, Option.isSome_some, ixL, ixT, ixS, at0, at1, at2, cmpI_int, add_int, sub_int, int_int, neg_int, is_non, Dv.int.injEq, Dv.bl.injEq, Dv.ref.injEq, Dv.tup.injEq, Dv.lst.injEq, Ob.lst.injEq, Ob.ins.injEq, decide_eq_true_eq, Prod.mk.injEq, and_assoc, exists_and_left, List.cons.injEq, ix30, ix31, ix32, szOk_le, Nat.reduceLeDiff, p59, p30, p6, p12, p18, ↓ok_src, ↓src_lst, ↓src_tup, ↓src_str, ↓src_scr, ↓ok_prt, ↓ok_lcN, ↓ok_sortSet, ↓ok_sortK0, ↓to_Ng, ↓go_par, ↓ok_dmNil, ↓ok_dmV, ↓ok_dmN, ↓to_stIs0, ↓to_stIs, ↓to_stIv, ↓to_stIn, ↓ok_andV, ↓ok_orV, tru_bl, tru_lst, ↓ok_chain, wipe0, wipe1, unwipe0, unwipe1, noOwn0, noOwn1, unown_no, unown_val, ↓ok_yes, List.getD_cons_zero, List.getD_cons_succ, List.getD_nil, Bool.true_and, Bool.and_true, incr, decide_true, Nat.zero_le, Nat.le_refl, eq_int, ne_int, nn_non, nn_int, nn_str, nn_bl, nn_tup, nn_lst, nn_ref, x_tt, x_tf, x_ft, x_ff, up_no, seqK_lst, seqK_tup, seqD_lst, seqD_tup, ↓ok_err, ↓go_er, ↓go_never, ↓ok_mkS, ↓ok_mkS0, ↓ok_prop, List.dropLast_cons₂, List.dropLast_nil]
  refine is_own_t x8' in_Clash (by decide +kernel) (by decide +kernel) ?_
  try simp (maxSteps := 2000000) only [↓go_seq, ↓go_next, ↓go_cont, ↓go_break, ↓go_retN, ↓go_ret, ↓go_if, ↓go_drop, ↓go_asg, ↓to_V, ↓to_tup, ↓to_cons, ↓to_nil, ↓ok_c, ↓ok_dv, ↓ok_op, ↓ok_un, ↓ok_nil, ↓ok_cons, ↓ok_tup, ↓ok_lst, ↓ok_tru, ↓ok_test, ↓ok_notB, ↓ok_andB, ↓ok_orB, ↓ok_ifE, ↓ok_notV, ↓ok_fn, ↓ok_cb, ↓ok_cm, ↓ok_var, ↓ok_slot, look_slot, look_dv, lookDv_int, lookDv_str, lookDv_bl, lookDv_non, lookDv_tup, lookDv_lst, lookDv_scr, lookDv_ty, lookDv_cls, ↓ok_lstN, push_def, ↓go_asgN, ↓to_N0, ↓ok_settle, ↓ok_store, ↓ok_opN, ↓ok_cn, ↓ok_mut, ↓go_setIx, list_slot, put_slot, ↓ok_fld, ↓go_setF, ↓ok_mt, ↓ok_mk, ↓go_for, ↓ok_rng1, ↓ok_rng2, ↓ok_enum, ↓ok_zip, ↓ok_no, ↓ok_sl, ↓ok_ite, ↓go_ite, ↓ok_ok, ↓ok_stuck, ↓go_stuck, startL, List.map_cons, List.map_nil, List.length_cons, List.length_nil, List.replicate, List.append_nil, List.nil_append, List.cons_append, List.getElem?_cons_zero, List.getElem?_cons_succ, List.set_cons_zero, List.set_cons_succ, Option.bind_some, lookAll, List.getElem?_nil, Nat.zero_add, Nat.reduceAdd, Nat.reduceSub, Nat.reduceLT, true_and, and_true, List.dropLast_singleton, List.length_singleton, if_true, if_false, Bool.not_true, Bool.not_false, Option.some.injEq, exists_eq_left', exists_eq_left, reduceCtorEq, Bool.false_eq_true, ite_true, ite_false, Option.isSome_some, ixL, ixT, ixS, at0, at1, at2, cmpI_int, add_int, sub_int, int_int, neg_int, is_non, Dv.int.injEq, Dv.bl.injEq, Dv.ref.injEq, Dv.tup.injEq, Dv.lst.injEq, Ob.lst.injEq, Ob.ins.injEq, decide_eq_true_eq, Prod.mk.injEq, and_assoc, exists_and_left, List.cons.injEq, ix30, ix31, ix32, szOk_le, Nat.reduceLeDiff, p59, p30, p6, p12, p18, ↓ok_src, ↓src_lst, ↓src_tup, ↓src_str, ↓src_scr, ↓ok_prt, ↓ok_lcN, ↓ok_sortSet, ↓ok_sortK0, ↓to_Ng, ↓go_par, ↓ok_dmNil, ↓ok_dmV, ↓ok_dmN, ↓to_stIs0, ↓to_stIs, ↓to_stIv, ↓to_stIn, ↓ok_andV, ↓ok_orV, tru_bl, tru_lst, ↓ok_chain, wipe0, wipe1, unwipe0, unwipe1, noOwn0, noOwn1, unown_no, unown_val, ↓ok_yes, List.getD_cons_zero, List.getD_cons_succ, List.getD_nil, Bool.true_and, Bool.and_true, incr, decide_true, Nat.zero_le, Nat.le_refl, eq_int, ne_int, nn_non, nn_int, nn_str, nn_bl, nn_tup, nn_lst, nn_ref, x_tt, x_tf, x_ft, x_ff, up_no, seqK_lst, seqK_tup, seqD_lst, seqD_tup, ↓ok_err, ↓go_er, ↓go_never, ↓ok_mkS, ↓ok_mkS0, ↓ok_prop, List.dropLast_cons₂, List.dropLast_nil]
  refine is_own_t x9' in_TwoRows (by decide +kernel) (by decide +kernel) ?_
  try simp (maxSteps := 2000000) only [↓go_seq, ↓go_next, ↓go_cont, ↓go_break, ↓go_retN, ↓go_ret, ↓go_if, ↓go_drop, ↓go_asg, ↓to_V, ↓to_tup, ↓to_cons, ↓to_nil, ↓ok_c, ↓ok_dv, ↓ok_op, ↓ok_un, ↓ok_nil, ↓ok_cons, ↓ok_tup, ↓ok_lst, ↓ok_tru, ↓ok_test, ↓ok_notB, ↓ok_andB, ↓ok_orB, ↓ok_ifE, ↓ok_notV, ↓ok_fn, ↓ok_cb, ↓ok_cm, ↓ok_var, ↓ok_slot, look_slot, look_dv, lookDv_int, lookDv_str, lookDv_bl, lookDv_non, lookDv_tup, lookDv_lst, lookDv_scr, lookDv_ty, lookDv_cls, ↓ok_lstN, push_def, ↓go_asgN, ↓to_N0, ↓ok_settle, ↓ok_store, ↓ok_opN, ↓ok_cn, ↓ok_mut, ↓go_setIx, list_slot, put_slot, ↓ok_fld, ↓go_setF, ↓ok_mt, ↓ok_mk, ↓go_for, ↓ok_rng1, ↓ok_rng2, ↓ok_enum, ↓ok_zip, ↓ok_no, ↓ok_sl, ↓ok_ite, ↓go_ite, ↓ok_ok, ↓ok_stuck, ↓go_stuck, startL, List.map_cons, List.map_nil, List.length_cons, List.length_nil, List.replicate, List.append_nil, List.nil_append, List.cons_append, List.getElem?_cons_zero, List.getElem?_cons_succ, List.set_cons_zero, List.set_cons_succ, Option.bind_some, lookAll, List.getElem?_nil, Nat.zero_add, Nat.reduceAdd, Nat.reduceSub, Nat.reduceLT, true_and, and_true, List.dropLast_singleton, List.length_singleton, if_true, if_false, Bool.not_true, Bool.not_false, Option.some.injEq, exists_eq_left', exists_eq_left, reduceCtorEq, Bool.false_eq_true, ite_true, ite_false, Option.isSome_some, ixL, ixT, ixS, at0, at1, at2, cmpI_int, add_int, sub_int, int_int, neg_int, is_non, Dv.int.injEq, Dv.bl.injEq, Dv.ref.injEq, Dv.tup.injEq, Dv.lst.injEq, Ob.lst.injEq, Ob.ins.injEq, decide_eq_true_eq, Prod.mk.injEq, and_assoc, exists_and_left, List.cons.injEq, ix30, ix31, ix32, szOk_le, Nat.reduceLeDiff, p59, p30, p6, p12, p18, ↓ok_src, ↓src_lst, ↓src_tup, ↓src_str, ↓src_scr, ↓ok_prt, ↓ok_lcN, ↓ok_sortSet, ↓ok_sortK0, ↓to_Ng, ↓go_par, ↓ok_dmNil, ↓ok_dmV, ↓ok_dmN, ↓to_stIs0, ↓to_stIs, ↓to_stIv, ↓to_stIn, ↓ok_andV, ↓ok_orV, tru_bl, tru_lst, ↓ok_chain, wipe0, wipe1, unwipe0, unwipe1, noOwn0, noOwn1, unown_no, unown_val, ↓ok_yes, List.getD_cons_zero, List.getD_cons_succ, List.getD_nil, Bool.true_and, Bool.and_true, incr, decide_true, Nat.zero_le, Nat.le_refl, eq_int, ne_int, nn_non, nn_int, nn_str, nn_bl, nn_tup, nn_lst, nn_ref, x_tt, x_tf, x_ft, x_ff, up_no, seqK_lst, seqK_tup, seqD_lst, seqD_tup, ↓ok_err, ↓go_er, ↓go_never, ↓ok_mkS, ↓ok_mkS0, ↓ok_prop, List.dropLast_cons₂, List.dropLast_nil]
  refine is_own_t x11 in_Refused (by decide +kernel) (by decide +kernel) ?_
  try simp (maxSteps := 2000000) only [↓go_seq, ↓go_next, ↓go_cont, ↓go_break, ↓go_retN, ↓go_ret, ↓go_if, ↓go_drop, ↓go_asg, ↓to_V, ↓to_tup, ↓to_cons, ↓to_nil, ↓ok_c, ↓ok_dv, ↓ok_op, ↓ok_un, ↓ok_nil, ↓ok_cons, ↓ok_tup, ↓ok_lst, ↓ok_tru, ↓ok_test, ↓ok_notB, ↓ok_andB, ↓ok_orB, ↓ok_ifE, ↓ok_notV, ↓ok_fn, ↓ok_cb, ↓ok_cm, ↓ok_var, ↓ok_slot, look_slot, look_dv, lookDv_int, lookDv_str, lookDv_bl, lookDv_non, lookDv_tup, lookDv_lst, lookDv_scr, lookDv_ty, lookDv_cls, ↓ok_lstN, push_def, ↓go_asgN, ↓to_N0, ↓ok_settle, ↓ok_store, ↓ok_opN, ↓ok_cn, ↓ok_mut, ↓go_setIx, list_slot, put_slot, ↓ok_fld, ↓go_setF, ↓ok_mt, ↓ok_mk, ↓go_for, ↓ok_rng1, ↓ok_rng2, ↓ok_enum, ↓ok_zip, ↓ok_no, ↓ok_sl, ↓ok_ite, ↓go_ite, ↓ok_ok, ↓ok_stuck, ↓go_stuck, startL, List.map_cons, List.map_nil, List.length_cons, List.length_nil, List.replicate, List.append_nil, List.nil_append, List.cons_append, List.getElem?_cons_zero, List.getElem?_cons_succ, List.set_cons_zero, List.set_cons_succ, Option.bind_some, lookAll, List.getElem?_nil, Nat.zero_add, Nat.reduceAdd, Nat.reduceSub, Nat.reduceLT, true_and, and_true, List.dropLast_singleton, List.length_singleton, if_true, if_false, Bool.not_true, Bool.not_false, Option.some.injEq, exists_eq_left', exists_eq_left, reduceCtorEq, Bool.false_eq_true, ite_true, ite_false, Option.isSome_some, ixL, ixT, ixS, at0, at1, at2, cmpI_int, add_int, sub_int, int_int, neg_int, is_non, Dv.int.injEq, Dv.bl.injEq, Dv.ref.injEq, Dv.tup.injEq, Dv.lst.injEq, Ob.lst.injEq, Ob.ins.injEq, decide_eq_true_eq, Prod.mk.injEq, and_assoc, exists_and_left, List.cons.injEq, ix30, ix31, ix32, szOk_le, Nat.reduceLeDiff, p59, p30, p6, p12, p18, ↓ok_src, ↓src_lst, ↓src_tup, ↓src_str, ↓src_scr, ↓ok_prt, ↓ok_lcN, ↓ok_sortSet, ↓ok_sortK0, ↓to_Ng, ↓go_par, ↓ok_dmNil, ↓ok_dmV, ↓ok_dmN, ↓to_stIs0, ↓to_stIs, ↓to_stIv, ↓to_stIn, ↓ok_andV, ↓ok_orV, tru_bl, tru_lst, ↓ok_chain, wipe0, wipe1, unwipe0, unwipe1, noOwn0, noOwn1, unown_no, unown_val, ↓ok_yes, List.getD_cons_zero, List.getD_cons_succ, List.getD_nil, Bool.true_and, Bool.and_true, incr, decide_true, Nat.zero_le, Nat.le_refl, eq_int, ne_int, nn_non, nn_int, nn_str, nn_bl, nn_tup, nn_lst, nn_ref, x_tt, x_tf, x_ft, x_ff, up_no, seqK_lst, seqK_tup, seqD_lst, seqD_tup, ↓ok_err, ↓go_er, ↓go_never, ↓ok_mkS, ↓ok_mkS0, ↓ok_prop, List.dropLast_cons₂, List.dropLast_nil]
  exact q _
end DD

namespace DD
open PySem L2
theorem any_none : fAny [.lst ((xlist.map fun D => xk "RowsError" D).map .bl)] = some (.bl false) := by
  have e : (xlist.map fun D => xk "RowsError" D) = List.replicate 18 false := by decide +kernel
  rw [e]; rfl
theorem all_four : fAll [.lst [.bl true, .bl true, .bl true, .bl true]] = some (.bl true) := rfl
theorem is_ff : fIs false (.bl false) (.bl false) = some (.bl true) := rfl
theorem mul_seven {x : Dv} : fMul (.lst [x]) (.int 7) = some (.lst [x, x, x, x, x, x, x]) := rfl
theorem right_t {m : List Ob} {n k : Nat} {Q : Dv → List Ob → Prop} (hb : Bag m n (k + 120)) (q : ∀ m', Q (.bl true) m') : Ca (c__law_right [.ref n] m) Q := by
  refine ca_def rfl ?_
  unfold B__law_right
  simp (maxSteps := 2000000) only [↓go_seq, ↓go_next, ↓go_cont, ↓go_break, ↓go_retN, ↓go_ret, ↓go_if, ↓go_drop, ↓go_asg, ↓to_V, ↓to_tup, ↓to_cons, ↓to_nil, ↓ok_c, ↓ok_dv, ↓ok_op, ↓ok_un, ↓ok_nil, ↓ok_cons, ↓ok_tup, ↓ok_lst, ↓ok_tru, ↓ok_test, ↓ok_notB, ↓ok_andB, ↓ok_orB, ↓ok_ifE, ↓ok_notV, ↓ok_fn, ↓ok_cb, ↓ok_cm, ↓ok_var, ↓ok_slot, look_slot, look_dv, lookDv_int, lookDv_str, lookDv_bl, lookDv_non, lookDv_tup, lookDv_lst, lookDv_scr, lookDv_ty, lookDv_cls, ↓ok_lstN, push_def, ↓go_asgN, ↓to_N0, ↓ok_settle, ↓ok_store, ↓ok_opN, ↓ok_cn, ↓ok_mut, ↓go_setIx, list_slot, put_slot, ↓ok_fld, ↓go_setF, ↓ok_mt, ↓ok_mk, ↓go_for, ↓ok_rng1, ↓ok_rng2, ↓ok_enum, ↓ok_zip, ↓ok_no, ↓ok_sl, ↓ok_ite, ↓go_ite, ↓ok_ok, ↓ok_stuck, ↓go_stuck, startL, List.map_cons, List.map_nil, List.length_cons, List.length_nil, List.replicate, List.append_nil, List.nil_append, List.cons_append, List.getElem?_cons_zero, List.getElem?_cons_succ, List.set_cons_zero, List.set_cons_succ, Option.bind_some, lookAll, List.getElem?_nil, Nat.zero_add, Nat.reduceAdd, Nat.reduceSub, Nat.reduceLT, true_and, and_true, List.dropLast_singleton, List.length_singleton, if_true, if_false, Bool.not_true, Bool.not_false, Option.some.injEq, exists_eq_left', exists_eq_left, reduceCtorEq, Bool.false_eq_true, ite_true, ite_false, Option.isSome_some, ixL, ixT, ixS, at0, at1, at2, cmpI_int, add_int, sub_int, int_int, neg_int, is_non, Dv.int.injEq, Dv.bl.injEq, Dv.ref.injEq, Dv.tup.injEq, Dv.lst.injEq, Ob.lst.injEq, Ob.ins.injEq, decide_eq_true_eq, Prod.mk.injEq, and_assoc, exists_and_left, List.cons.injEq, ix30, ix31, ix32, szOk_le, Nat.reduceLeDiff, p59, p30, p6, p12, p18, ↓ok_src, ↓src_lst, ↓src_tup, ↓src_str, ↓src_scr, ↓ok_prt, ↓ok_lcN, ↓ok_sortSet, ↓ok_sortK0, ↓to_Ng, ↓go_par, ↓ok_dmNil, ↓ok_dmV, ↓ok_dmN, ↓to_stIs0, ↓to_stIs, ↓to_stIv, ↓to_stIn, ↓ok_andV, ↓ok_orV, tru_bl, tru_lst, ↓ok_chain, wipe0, wipe1, unwipe0, unwipe1, noOwn0, noOwn1, unown_no, unown_val, ↓ok_yes, List.getD_cons_zero, List.getD_cons_succ, List.getD_nil, Bool.true_and, Bool.and_true, incr, decide_true, Nat.zero_le, Nat.le_refl, eq_int, ne_int, nn_non, nn_int, nn_str, nn_bl, nn_tup, nn_lst, nn_ref, x_tt, x_tf, x_ft, x_ff, up_no, seqK_lst, seqK_tup, seqD_lst, seqD_tup, ↓ok_err, ↓go_er, ↓go_never, ↓ok_mkS, ↓ok_mkS0, ↓ok_prop, List.dropLast_cons₂, List.dropLast_nil]
  simp (maxSteps := 2000000) only [↓go_seq, ↓go_next, ↓go_cont, ↓go_break, ↓go_retN, ↓go_ret, ↓go_if, ↓go_drop, ↓go_asg, ↓to_V, ↓to_tup, ↓to_cons, ↓to_nil, ↓ok_c, ↓ok_dv, ↓ok_op, ↓ok_un, ↓ok_nil, ↓ok_cons, ↓ok_tup, ↓ok_lst, ↓ok_tru, ↓ok_test, ↓ok_notB, ↓ok_andB, ↓ok_orB, ↓ok_ifE, ↓ok_notV, ↓ok_fn, ↓ok_cb, ↓ok_cm, ↓ok_var, ↓ok_slot, look_slot, look_dv, lookDv_int, lookDv_str, lookDv_bl, lookDv_non, lookDv_tup, lookDv_lst, lookDv_scr, lookDv_ty, lookDv_cls, ↓ok_lstN, push_def, ↓go_asgN, ↓to_N0, ↓ok_settle, ↓ok_store, ↓ok_opN, ↓ok_cn, ↓ok_mut, ↓go_setIx, list_slot, put_slot, ↓ok_fld, ↓go_setF, ↓ok_mt, ↓ok_mk, ↓go_for, ↓ok_rng1, ↓ok_rng2, ↓ok_enum, ↓ok_zip, ↓ok_no, ↓ok_sl, ↓ok_ite, ↓go_ite, ↓ok_ok, ↓ok_stuck, ↓go_stuck, startL, List.map_cons, List.map_nil, List.length_cons, List.length_nil, List.replicate, List.append_nil, List.nil_append, List.cons_append, List.getElem?_cons_zero, List.getElem?_cons_succ, List.set_cons_zero, List.set_cons_succ, Option.bind_some, lookAll, List.getElem?_nil, Nat.zero_add, Nat.reduceAdd, Nat.reduceSub, Nat.reduceLT, true_and, and_true, List.dropLast_singleton, List.length_singleton, if_true, if_false, Bool.not_true, Bool.not_false, Option.some.injEq, exists_eq_left', exists_eq_left, reduceCtorEq, Bool.false_eq_true, ite_true, ite_false, Option.isSome_some, ixL, ixT, ixS, at0, at1, at2, cmpI_int, add_int, sub_int, int_int, neg_int, is_non, Dv.int.injEq, Dv.bl.injEq, Dv.ref.injEq, Dv.tup.injEq, Dv.lst.injEq, Ob.lst.injEq, Ob.ins.injEq, decide_eq_true_eq, Prod.mk.injEq, and_assoc, exists_and_left, List.cons.injEq, ix30, ix31, ix32, szOk_le, Nat.reduceLeDiff, p59, p30, p6, p12, p18, ↓ok_src, ↓src_lst, ↓src_tup, ↓src_str, ↓src_scr, ↓ok_prt, ↓ok_lcN, ↓ok_sortSet, ↓ok_sortK0, ↓to_Ng, ↓go_par, ↓ok_dmNil, ↓ok_dmV, ↓ok_dmN, ↓to_stIs0, ↓to_stIs, ↓to_stIv, ↓to_stIn, ↓ok_andV, ↓ok_orV, tru_bl, tru_lst, ↓ok_chain, wipe0, wipe1, unwipe0, unwipe1, noOwn0, noOwn1, unown_no, unown_val, ↓ok_yes, List.getD_cons_zero, List.getD_cons_succ, List.getD_nil, Bool.true_and, Bool.and_true, incr, decide_true, Nat.zero_le, Nat.le_refl, eq_int, ne_int, nn_non, nn_int, nn_str, nn_bl, nn_tup, nn_lst, nn_ref, x_tt, x_tf, x_ft, x_ff, up_no, seqK_lst, seqK_tup, seqD_lst, seqD_tup, ↓ok_err, ↓go_er, ↓go_never, ↓ok_mkS, ↓ok_mkS0, ↓ok_prop, List.dropLast_cons₂, List.dropLast_nil, B__law_right_0]
  refine day_t (k := k + 110) hb fun a m1 b1 _ => ?_
  refine words_t (ws := ["set", "", "Move", "x y"]) (k := k + 109) b1 (by simp) (by simp) (by decide +kernel) fun w m2 hw b2 _ => ?_
  refine ends_t (k := k + 108) b2 fun e m3 he b3 _ => ?_
  simp (maxSteps := 2000000) only [↓go_seq, ↓go_next, ↓go_cont, ↓go_break, ↓go_retN, ↓go_ret, ↓go_if, ↓go_drop, ↓go_asg, ↓to_V, ↓to_tup, ↓to_cons, ↓to_nil, ↓ok_c, ↓ok_dv, ↓ok_op, ↓ok_un, ↓ok_nil, ↓ok_cons, ↓ok_tup, ↓ok_lst, ↓ok_tru, ↓ok_test, ↓ok_notB, ↓ok_andB, ↓ok_orB, ↓ok_ifE, ↓ok_notV, ↓ok_fn, ↓ok_cb, ↓ok_cm, ↓ok_var, ↓ok_slot, look_slot, look_dv, lookDv_int, lookDv_str, lookDv_bl, lookDv_non, lookDv_tup, lookDv_lst, lookDv_scr, lookDv_ty, lookDv_cls, ↓ok_lstN, push_def, ↓go_asgN, ↓to_N0, ↓ok_settle, ↓ok_store, ↓ok_opN, ↓ok_cn, ↓ok_mut, ↓go_setIx, list_slot, put_slot, ↓ok_fld, ↓go_setF, ↓ok_mt, ↓ok_mk, ↓go_for, ↓ok_rng1, ↓ok_rng2, ↓ok_enum, ↓ok_zip, ↓ok_no, ↓ok_sl, ↓ok_ite, ↓go_ite, ↓ok_ok, ↓ok_stuck, ↓go_stuck, startL, List.map_cons, List.map_nil, List.length_cons, List.length_nil, List.replicate, List.append_nil, List.nil_append, List.cons_append, List.getElem?_cons_zero, List.getElem?_cons_succ, List.set_cons_zero, List.set_cons_succ, Option.bind_some, lookAll, List.getElem?_nil, Nat.zero_add, Nat.reduceAdd, Nat.reduceSub, Nat.reduceLT, true_and, and_true, List.dropLast_singleton, List.length_singleton, if_true, if_false, Bool.not_true, Bool.not_false, Option.some.injEq, exists_eq_left', exists_eq_left, reduceCtorEq, Bool.false_eq_true, ite_true, ite_false, Option.isSome_some, ixL, ixT, ixS, at0, at1, at2, cmpI_int, add_int, sub_int, int_int, neg_int, is_non, Dv.int.injEq, Dv.bl.injEq, Dv.ref.injEq, Dv.tup.injEq, Dv.lst.injEq, Ob.lst.injEq, Ob.ins.injEq, decide_eq_true_eq, Prod.mk.injEq, and_assoc, exists_and_left, List.cons.injEq, ix30, ix31, ix32, szOk_le, Nat.reduceLeDiff, p59, p30, p6, p12, p18, ↓ok_src, ↓src_lst, ↓src_tup, ↓src_str, ↓src_scr, ↓ok_prt, ↓ok_lcN, ↓ok_sortSet, ↓ok_sortK0, ↓to_Ng, ↓go_par, ↓ok_dmNil, ↓ok_dmV, ↓ok_dmN, ↓to_stIs0, ↓to_stIs, ↓to_stIv, ↓to_stIn, ↓ok_andV, ↓ok_orV, tru_bl, tru_lst, ↓ok_chain, wipe0, wipe1, unwipe0, unwipe1, noOwn0, noOwn1, unown_no, unown_val, ↓ok_yes, List.getD_cons_zero, List.getD_cons_succ, List.getD_nil, Bool.true_and, Bool.and_true, incr, decide_true, Nat.zero_le, Nat.le_refl, eq_int, ne_int, nn_non, nn_int, nn_str, nn_bl, nn_tup, nn_lst, nn_ref, x_tt, x_tf, x_ft, x_ff, up_no, seqK_lst, seqK_tup, seqD_lst, seqD_tup, ↓ok_err, ↓go_er, ↓go_never, ↓ok_mkS, ↓ok_mkS0, ↓ok_prop, List.dropLast_cons₂, List.dropLast_nil, B__law_right_1, ↓ok_mkX]
  refine mk_Unordered fun m4 e4 x4 => ?_
  simp (maxSteps := 2000000) only [↓go_seq, ↓go_next, ↓go_cont, ↓go_break, ↓go_retN, ↓go_ret, ↓go_if, ↓go_drop, ↓go_asg, ↓to_V, ↓to_tup, ↓to_cons, ↓to_nil, ↓ok_c, ↓ok_dv, ↓ok_op, ↓ok_un, ↓ok_nil, ↓ok_cons, ↓ok_tup, ↓ok_lst, ↓ok_tru, ↓ok_test, ↓ok_notB, ↓ok_andB, ↓ok_orB, ↓ok_ifE, ↓ok_notV, ↓ok_fn, ↓ok_cb, ↓ok_cm, ↓ok_var, ↓ok_slot, look_slot, look_dv, lookDv_int, lookDv_str, lookDv_bl, lookDv_non, lookDv_tup, lookDv_lst, lookDv_scr, lookDv_ty, lookDv_cls, ↓ok_lstN, push_def, ↓go_asgN, ↓to_N0, ↓ok_settle, ↓ok_store, ↓ok_opN, ↓ok_cn, ↓ok_mut, ↓go_setIx, list_slot, put_slot, ↓ok_fld, ↓go_setF, ↓ok_mt, ↓ok_mk, ↓go_for, ↓ok_rng1, ↓ok_rng2, ↓ok_enum, ↓ok_zip, ↓ok_no, ↓ok_sl, ↓ok_ite, ↓go_ite, ↓ok_ok, ↓ok_stuck, ↓go_stuck, startL, List.map_cons, List.map_nil, List.length_cons, List.length_nil, List.replicate, List.append_nil, List.nil_append, List.cons_append, List.getElem?_cons_zero, List.getElem?_cons_succ, List.set_cons_zero, List.set_cons_succ, Option.bind_some, lookAll, List.getElem?_nil, Nat.zero_add, Nat.reduceAdd, Nat.reduceSub, Nat.reduceLT, true_and, and_true, List.dropLast_singleton, List.length_singleton, if_true, if_false, Bool.not_true, Bool.not_false, Option.some.injEq, exists_eq_left', exists_eq_left, reduceCtorEq, Bool.false_eq_true, ite_true, ite_false, Option.isSome_some, ixL, ixT, ixS, at0, at1, at2, cmpI_int, add_int, sub_int, int_int, neg_int, is_non, Dv.int.injEq, Dv.bl.injEq, Dv.ref.injEq, Dv.tup.injEq, Dv.lst.injEq, Ob.lst.injEq, Ob.ins.injEq, decide_eq_true_eq, Prod.mk.injEq, and_assoc, exists_and_left, List.cons.injEq, ix30, ix31, ix32, szOk_le, Nat.reduceLeDiff, p59, p30, p6, p12, p18, ↓ok_src, ↓src_lst, ↓src_tup, ↓src_str, ↓src_scr, ↓ok_prt, ↓ok_lcN, ↓ok_sortSet, ↓ok_sortK0, ↓to_Ng, ↓go_par, ↓ok_dmNil, ↓ok_dmV, ↓ok_dmN, ↓to_stIs0, ↓to_stIs, ↓to_stIv, ↓to_stIn, ↓ok_andV, ↓ok_orV, tru_bl, tru_lst, ↓ok_chain, wipe0, wipe1, unwipe0, unwipe1, noOwn0, noOwn1, unown_no, unown_val, ↓ok_yes, List.getD_cons_zero, List.getD_cons_succ, List.getD_nil, Bool.true_and, Bool.and_true, incr, decide_true, Nat.zero_le, Nat.le_refl, eq_int, ne_int, nn_non, nn_int, nn_str, nn_bl, nn_tup, nn_lst, nn_ref, x_tt, x_tf, x_ft, x_ff, up_no, seqK_lst, seqK_tup, seqD_lst, seqD_tup, ↓ok_err, ↓go_er, ↓go_never, ↓ok_mkS, ↓ok_mkS0, ↓ok_prop, List.dropLast_cons₂, List.dropLast_nil, ↓ok_mkX]
  refine mk_BadLine fun m5 e5 x5 => ?_
  simp (maxSteps := 2000000) only [↓go_seq, ↓go_next, ↓go_cont, ↓go_break, ↓go_retN, ↓go_ret, ↓go_if, ↓go_drop, ↓go_asg, ↓to_V, ↓to_tup, ↓to_cons, ↓to_nil, ↓ok_c, ↓ok_dv, ↓ok_op, ↓ok_un, ↓ok_nil, ↓ok_cons, ↓ok_tup, ↓ok_lst, ↓ok_tru, ↓ok_test, ↓ok_notB, ↓ok_andB, ↓ok_orB, ↓ok_ifE, ↓ok_notV, ↓ok_fn, ↓ok_cb, ↓ok_cm, ↓ok_var, ↓ok_slot, look_slot, look_dv, lookDv_int, lookDv_str, lookDv_bl, lookDv_non, lookDv_tup, lookDv_lst, lookDv_scr, lookDv_ty, lookDv_cls, ↓ok_lstN, push_def, ↓go_asgN, ↓to_N0, ↓ok_settle, ↓ok_store, ↓ok_opN, ↓ok_cn, ↓ok_mut, ↓go_setIx, list_slot, put_slot, ↓ok_fld, ↓go_setF, ↓ok_mt, ↓ok_mk, ↓go_for, ↓ok_rng1, ↓ok_rng2, ↓ok_enum, ↓ok_zip, ↓ok_no, ↓ok_sl, ↓ok_ite, ↓go_ite, ↓ok_ok, ↓ok_stuck, ↓go_stuck, startL, List.map_cons, List.map_nil, List.length_cons, List.length_nil, List.replicate, List.append_nil, List.nil_append, List.cons_append, List.getElem?_cons_zero, List.getElem?_cons_succ, List.set_cons_zero, List.set_cons_succ, Option.bind_some, lookAll, List.getElem?_nil, Nat.zero_add, Nat.reduceAdd, Nat.reduceSub, Nat.reduceLT, true_and, and_true, List.dropLast_singleton, List.length_singleton, if_true, if_false, Bool.not_true, Bool.not_false, Option.some.injEq, exists_eq_left', exists_eq_left, reduceCtorEq, Bool.false_eq_true, ite_true, ite_false, Option.isSome_some, ixL, ixT, ixS, at0, at1, at2, cmpI_int, add_int, sub_int, int_int, neg_int, is_non, Dv.int.injEq, Dv.bl.injEq, Dv.ref.injEq, Dv.tup.injEq, Dv.lst.injEq, Ob.lst.injEq, Ob.ins.injEq, decide_eq_true_eq, Prod.mk.injEq, and_assoc, exists_and_left, List.cons.injEq, ix30, ix31, ix32, szOk_le, Nat.reduceLeDiff, p59, p30, p6, p12, p18, ↓ok_src, ↓src_lst, ↓src_tup, ↓src_str, ↓src_scr, ↓ok_prt, ↓ok_lcN, ↓ok_sortSet, ↓ok_sortK0, ↓to_Ng, ↓go_par, ↓ok_dmNil, ↓ok_dmV, ↓ok_dmN, ↓to_stIs0, ↓to_stIs, ↓to_stIv, ↓to_stIn, ↓ok_andV, ↓ok_orV, tru_bl, tru_lst, ↓ok_chain, wipe0, wipe1, unwipe0, unwipe1, noOwn0, noOwn1, unown_no, unown_val, ↓ok_yes, List.getD_cons_zero, List.getD_cons_succ, List.getD_nil, Bool.true_and, Bool.and_true, incr, decide_true, Nat.zero_le, Nat.le_refl, eq_int, ne_int, nn_non, nn_int, nn_str, nn_bl, nn_tup, nn_lst, nn_ref, x_tt, x_tf, x_ft, x_ff, up_no, seqK_lst, seqK_tup, seqD_lst, seqD_tup, ↓ok_err, ↓go_er, ↓go_never, ↓ok_mkS, ↓ok_mkS0, ↓ok_prop, List.dropLast_cons₂, List.dropLast_nil, ↓ok_mkX]
  refine mk_TooMany fun m6 e6 x6 => ?_
  simp (maxSteps := 2000000) only [↓go_seq, ↓go_next, ↓go_cont, ↓go_break, ↓go_retN, ↓go_ret, ↓go_if, ↓go_drop, ↓go_asg, ↓to_V, ↓to_tup, ↓to_cons, ↓to_nil, ↓ok_c, ↓ok_dv, ↓ok_op, ↓ok_un, ↓ok_nil, ↓ok_cons, ↓ok_tup, ↓ok_lst, ↓ok_tru, ↓ok_test, ↓ok_notB, ↓ok_andB, ↓ok_orB, ↓ok_ifE, ↓ok_notV, ↓ok_fn, ↓ok_cb, ↓ok_cm, ↓ok_var, ↓ok_slot, look_slot, look_dv, lookDv_int, lookDv_str, lookDv_bl, lookDv_non, lookDv_tup, lookDv_lst, lookDv_scr, lookDv_ty, lookDv_cls, ↓ok_lstN, push_def, ↓go_asgN, ↓to_N0, ↓ok_settle, ↓ok_store, ↓ok_opN, ↓ok_cn, ↓ok_mut, ↓go_setIx, list_slot, put_slot, ↓ok_fld, ↓go_setF, ↓ok_mt, ↓ok_mk, ↓go_for, ↓ok_rng1, ↓ok_rng2, ↓ok_enum, ↓ok_zip, ↓ok_no, ↓ok_sl, ↓ok_ite, ↓go_ite, ↓ok_ok, ↓ok_stuck, ↓go_stuck, startL, List.map_cons, List.map_nil, List.length_cons, List.length_nil, List.replicate, List.append_nil, List.nil_append, List.cons_append, List.getElem?_cons_zero, List.getElem?_cons_succ, List.set_cons_zero, List.set_cons_succ, Option.bind_some, lookAll, List.getElem?_nil, Nat.zero_add, Nat.reduceAdd, Nat.reduceSub, Nat.reduceLT, true_and, and_true, List.dropLast_singleton, List.length_singleton, if_true, if_false, Bool.not_true, Bool.not_false, Option.some.injEq, exists_eq_left', exists_eq_left, reduceCtorEq, Bool.false_eq_true, ite_true, ite_false, Option.isSome_some, ixL, ixT, ixS, at0, at1, at2, cmpI_int, add_int, sub_int, int_int, neg_int, is_non, Dv.int.injEq, Dv.bl.injEq, Dv.ref.injEq, Dv.tup.injEq, Dv.lst.injEq, Ob.lst.injEq, Ob.ins.injEq, decide_eq_true_eq, Prod.mk.injEq, and_assoc, exists_and_left, List.cons.injEq, ix30, ix31, ix32, szOk_le, Nat.reduceLeDiff, p59, p30, p6, p12, p18, ↓ok_src, ↓src_lst, ↓src_tup, ↓src_str, ↓src_scr, ↓ok_prt, ↓ok_lcN, ↓ok_sortSet, ↓ok_sortK0, ↓to_Ng, ↓go_par, ↓ok_dmNil, ↓ok_dmV, ↓ok_dmN, ↓to_stIs0, ↓to_stIs, ↓to_stIv, ↓to_stIn, ↓ok_andV, ↓ok_orV, tru_bl, tru_lst, ↓ok_chain, wipe0, wipe1, unwipe0, unwipe1, noOwn0, noOwn1, unown_no, unown_val, ↓ok_yes, List.getD_cons_zero, List.getD_cons_succ, List.getD_nil, Bool.true_and, Bool.and_true, incr, decide_true, Nat.zero_le, Nat.le_refl, eq_int, ne_int, nn_non, nn_int, nn_str, nn_bl, nn_tup, nn_lst, nn_ref, x_tt, x_tf, x_ft, x_ff, up_no, seqK_lst, seqK_tup, seqD_lst, seqD_tup, ↓ok_err, ↓go_er, ↓go_never, ↓ok_mkS, ↓ok_mkS0, ↓ok_prop, List.dropLast_cons₂, List.dropLast_nil, ↓ok_mkX]
  refine mk_TooFar fun m7 e7 x7 => ?_
  simp (maxSteps := 2000000) only [↓go_seq, ↓go_next, ↓go_cont, ↓go_break, ↓go_retN, ↓go_ret, ↓go_if, ↓go_drop, ↓go_asg, ↓to_V, ↓to_tup, ↓to_cons, ↓to_nil, ↓ok_c, ↓ok_dv, ↓ok_op, ↓ok_un, ↓ok_nil, ↓ok_cons, ↓ok_tup, ↓ok_lst, ↓ok_tru, ↓ok_test, ↓ok_notB, ↓ok_andB, ↓ok_orB, ↓ok_ifE, ↓ok_notV, ↓ok_fn, ↓ok_cb, ↓ok_cm, ↓ok_var, ↓ok_slot, look_slot, look_dv, lookDv_int, lookDv_str, lookDv_bl, lookDv_non, lookDv_tup, lookDv_lst, lookDv_scr, lookDv_ty, lookDv_cls, ↓ok_lstN, push_def, ↓go_asgN, ↓to_N0, ↓ok_settle, ↓ok_store, ↓ok_opN, ↓ok_cn, ↓ok_mut, ↓go_setIx, list_slot, put_slot, ↓ok_fld, ↓go_setF, ↓ok_mt, ↓ok_mk, ↓go_for, ↓ok_rng1, ↓ok_rng2, ↓ok_enum, ↓ok_zip, ↓ok_no, ↓ok_sl, ↓ok_ite, ↓go_ite, ↓ok_ok, ↓ok_stuck, ↓go_stuck, startL, List.map_cons, List.map_nil, List.length_cons, List.length_nil, List.replicate, List.append_nil, List.nil_append, List.cons_append, List.getElem?_cons_zero, List.getElem?_cons_succ, List.set_cons_zero, List.set_cons_succ, Option.bind_some, lookAll, List.getElem?_nil, Nat.zero_add, Nat.reduceAdd, Nat.reduceSub, Nat.reduceLT, true_and, and_true, List.dropLast_singleton, List.length_singleton, if_true, if_false, Bool.not_true, Bool.not_false, Option.some.injEq, exists_eq_left', exists_eq_left, reduceCtorEq, Bool.false_eq_true, ite_true, ite_false, Option.isSome_some, ixL, ixT, ixS, at0, at1, at2, cmpI_int, add_int, sub_int, int_int, neg_int, is_non, Dv.int.injEq, Dv.bl.injEq, Dv.ref.injEq, Dv.tup.injEq, Dv.lst.injEq, Ob.lst.injEq, Ob.ins.injEq, decide_eq_true_eq, Prod.mk.injEq, and_assoc, exists_and_left, List.cons.injEq, ix30, ix31, ix32, szOk_le, Nat.reduceLeDiff, p59, p30, p6, p12, p18, ↓ok_src, ↓src_lst, ↓src_tup, ↓src_str, ↓src_scr, ↓ok_prt, ↓ok_lcN, ↓ok_sortSet, ↓ok_sortK0, ↓to_Ng, ↓go_par, ↓ok_dmNil, ↓ok_dmV, ↓ok_dmN, ↓to_stIs0, ↓to_stIs, ↓to_stIv, ↓to_stIn, ↓ok_andV, ↓ok_orV, tru_bl, tru_lst, ↓ok_chain, wipe0, wipe1, unwipe0, unwipe1, noOwn0, noOwn1, unown_no, unown_val, ↓ok_yes, List.getD_cons_zero, List.getD_cons_succ, List.getD_nil, Bool.true_and, Bool.and_true, incr, decide_true, Nat.zero_le, Nat.le_refl, eq_int, ne_int, nn_non, nn_int, nn_str, nn_bl, nn_tup, nn_lst, nn_ref, x_tt, x_tf, x_ft, x_ff, up_no, seqK_lst, seqK_tup, seqD_lst, seqD_tup, ↓ok_err, ↓go_er, ↓go_never, ↓ok_mkS, ↓ok_mkS0, ↓ok_prop, List.dropLast_cons₂, List.dropLast_nil, ↓ok_mkX, B__law_right_2]
  refine mk_NoDay fun m8 e8 x8 => ?_
  simp (maxSteps := 2000000) only [↓go_seq, ↓go_next, ↓go_cont, ↓go_break, ↓go_retN, ↓go_ret, ↓go_if, ↓go_drop, ↓go_asg, ↓to_V, ↓to_tup, ↓to_cons, ↓to_nil, ↓ok_c, ↓ok_dv, ↓ok_op, ↓ok_un, ↓ok_nil, ↓ok_cons, ↓ok_tup, ↓ok_lst, ↓ok_tru, ↓ok_test, ↓ok_notB, ↓ok_andB, ↓ok_orB, ↓ok_ifE, ↓ok_notV, ↓ok_fn, ↓ok_cb, ↓ok_cm, ↓ok_var, ↓ok_slot, look_slot, look_dv, lookDv_int, lookDv_str, lookDv_bl, lookDv_non, lookDv_tup, lookDv_lst, lookDv_scr, lookDv_ty, lookDv_cls, ↓ok_lstN, push_def, ↓go_asgN, ↓to_N0, ↓ok_settle, ↓ok_store, ↓ok_opN, ↓ok_cn, ↓ok_mut, ↓go_setIx, list_slot, put_slot, ↓ok_fld, ↓go_setF, ↓ok_mt, ↓ok_mk, ↓go_for, ↓ok_rng1, ↓ok_rng2, ↓ok_enum, ↓ok_zip, ↓ok_no, ↓ok_sl, ↓ok_ite, ↓go_ite, ↓ok_ok, ↓ok_stuck, ↓go_stuck, startL, List.map_cons, List.map_nil, List.length_cons, List.length_nil, List.replicate, List.append_nil, List.nil_append, List.cons_append, List.getElem?_cons_zero, List.getElem?_cons_succ, List.set_cons_zero, List.set_cons_succ, Option.bind_some, lookAll, List.getElem?_nil, Nat.zero_add, Nat.reduceAdd, Nat.reduceSub, Nat.reduceLT, true_and, and_true, List.dropLast_singleton, List.length_singleton, if_true, if_false, Bool.not_true, Bool.not_false, Option.some.injEq, exists_eq_left', exists_eq_left, reduceCtorEq, Bool.false_eq_true, ite_true, ite_false, Option.isSome_some, ixL, ixT, ixS, at0, at1, at2, cmpI_int, add_int, sub_int, int_int, neg_int, is_non, Dv.int.injEq, Dv.bl.injEq, Dv.ref.injEq, Dv.tup.injEq, Dv.lst.injEq, Ob.lst.injEq, Ob.ins.injEq, decide_eq_true_eq, Prod.mk.injEq, and_assoc, exists_and_left, List.cons.injEq, ix30, ix31, ix32, szOk_le, Nat.reduceLeDiff, p59, p30, p6, p12, p18, ↓ok_src, ↓src_lst, ↓src_tup, ↓src_str, ↓src_scr, ↓ok_prt, ↓ok_lcN, ↓ok_sortSet, ↓ok_sortK0, ↓to_Ng, ↓go_par, ↓ok_dmNil, ↓ok_dmV, ↓ok_dmN, ↓to_stIs0, ↓to_stIs, ↓to_stIv, ↓to_stIn, ↓ok_andV, ↓ok_orV, tru_bl, tru_lst, ↓ok_chain, wipe0, wipe1, unwipe0, unwipe1, noOwn0, noOwn1, unown_no, unown_val, ↓ok_yes, List.getD_cons_zero, List.getD_cons_succ, List.getD_nil, Bool.true_and, Bool.and_true, incr, decide_true, Nat.zero_le, Nat.le_refl, eq_int, ne_int, nn_non, nn_int, nn_str, nn_bl, nn_tup, nn_lst, nn_ref, x_tt, x_tf, x_ft, x_ff, up_no, seqK_lst, seqK_tup, seqD_lst, seqD_tup, ↓ok_err, ↓go_er, ↓go_never, ↓ok_mkS, ↓ok_mkS0, ↓ok_prop, List.dropLast_cons₂, List.dropLast_nil, ↓ok_mkX]
  refine mk_OtherEnds fun m9 e9 x9 => ?_
  simp (maxSteps := 2000000) only [↓go_seq, ↓go_next, ↓go_cont, ↓go_break, ↓go_retN, ↓go_ret, ↓go_if, ↓go_drop, ↓go_asg, ↓to_V, ↓to_tup, ↓to_cons, ↓to_nil, ↓ok_c, ↓ok_dv, ↓ok_op, ↓ok_un, ↓ok_nil, ↓ok_cons, ↓ok_tup, ↓ok_lst, ↓ok_tru, ↓ok_test, ↓ok_notB, ↓ok_andB, ↓ok_orB, ↓ok_ifE, ↓ok_notV, ↓ok_fn, ↓ok_cb, ↓ok_cm, ↓ok_var, ↓ok_slot, look_slot, look_dv, lookDv_int, lookDv_str, lookDv_bl, lookDv_non, lookDv_tup, lookDv_lst, lookDv_scr, lookDv_ty, lookDv_cls, ↓ok_lstN, push_def, ↓go_asgN, ↓to_N0, ↓ok_settle, ↓ok_store, ↓ok_opN, ↓ok_cn, ↓ok_mut, ↓go_setIx, list_slot, put_slot, ↓ok_fld, ↓go_setF, ↓ok_mt, ↓ok_mk, ↓go_for, ↓ok_rng1, ↓ok_rng2, ↓ok_enum, ↓ok_zip, ↓ok_no, ↓ok_sl, ↓ok_ite, ↓go_ite, ↓ok_ok, ↓ok_stuck, ↓go_stuck, startL, List.map_cons, List.map_nil, List.length_cons, List.length_nil, List.replicate, List.append_nil, List.nil_append, List.cons_append, List.getElem?_cons_zero, List.getElem?_cons_succ, List.set_cons_zero, List.set_cons_succ, Option.bind_some, lookAll, List.getElem?_nil, Nat.zero_add, Nat.reduceAdd, Nat.reduceSub, Nat.reduceLT, true_and, and_true, List.dropLast_singleton, List.length_singleton, if_true, if_false, Bool.not_true, Bool.not_false, Option.some.injEq, exists_eq_left', exists_eq_left, reduceCtorEq, Bool.false_eq_true, ite_true, ite_false, Option.isSome_some, ixL, ixT, ixS, at0, at1, at2, cmpI_int, add_int, sub_int, int_int, neg_int, is_non, Dv.int.injEq, Dv.bl.injEq, Dv.ref.injEq, Dv.tup.injEq, Dv.lst.injEq, Ob.lst.injEq, Ob.ins.injEq, decide_eq_true_eq, Prod.mk.injEq, and_assoc, exists_and_left, List.cons.injEq, ix30, ix31, ix32, szOk_le, Nat.reduceLeDiff, p59, p30, p6, p12, p18, ↓ok_src, ↓src_lst, ↓src_tup, ↓src_str, ↓src_scr, ↓ok_prt, ↓ok_lcN, ↓ok_sortSet, ↓ok_sortK0, ↓to_Ng, ↓go_par, ↓ok_dmNil, ↓ok_dmV, ↓ok_dmN, ↓to_stIs0, ↓to_stIs, ↓to_stIv, ↓to_stIn, ↓ok_andV, ↓ok_orV, tru_bl, tru_lst, ↓ok_chain, wipe0, wipe1, unwipe0, unwipe1, noOwn0, noOwn1, unown_no, unown_val, ↓ok_yes, List.getD_cons_zero, List.getD_cons_succ, List.getD_nil, Bool.true_and, Bool.and_true, incr, decide_true, Nat.zero_le, Nat.le_refl, eq_int, ne_int, nn_non, nn_int, nn_str, nn_bl, nn_tup, nn_lst, nn_ref, x_tt, x_tf, x_ft, x_ff, up_no, seqK_lst, seqK_tup, seqD_lst, seqD_tup, ↓ok_err, ↓go_er, ↓go_never, ↓ok_mkS, ↓ok_mkS0, ↓ok_prop, List.dropLast_cons₂, List.dropLast_nil, ↓ok_mkX]
  refine mk_NotAllowed fun m10 e10 x10 => ?_
  simp (maxSteps := 2000000) only [↓go_seq, ↓go_next, ↓go_cont, ↓go_break, ↓go_retN, ↓go_ret, ↓go_if, ↓go_drop, ↓go_asg, ↓to_V, ↓to_tup, ↓to_cons, ↓to_nil, ↓ok_c, ↓ok_dv, ↓ok_op, ↓ok_un, ↓ok_nil, ↓ok_cons, ↓ok_tup, ↓ok_lst, ↓ok_tru, ↓ok_test, ↓ok_notB, ↓ok_andB, ↓ok_orB, ↓ok_ifE, ↓ok_notV, ↓ok_fn, ↓ok_cb, ↓ok_cm, ↓ok_var, ↓ok_slot, look_slot, look_dv, lookDv_int, lookDv_str, lookDv_bl, lookDv_non, lookDv_tup, lookDv_lst, lookDv_scr, lookDv_ty, lookDv_cls, ↓ok_lstN, push_def, ↓go_asgN, ↓to_N0, ↓ok_settle, ↓ok_store, ↓ok_opN, ↓ok_cn, ↓ok_mut, ↓go_setIx, list_slot, put_slot, ↓ok_fld, ↓go_setF, ↓ok_mt, ↓ok_mk, ↓go_for, ↓ok_rng1, ↓ok_rng2, ↓ok_enum, ↓ok_zip, ↓ok_no, ↓ok_sl, ↓ok_ite, ↓go_ite, ↓ok_ok, ↓ok_stuck, ↓go_stuck, startL, List.map_cons, List.map_nil, List.length_cons, List.length_nil, List.replicate, List.append_nil, List.nil_append, List.cons_append, List.getElem?_cons_zero, List.getElem?_cons_succ, List.set_cons_zero, List.set_cons_succ, Option.bind_some, lookAll, List.getElem?_nil, Nat.zero_add, Nat.reduceAdd, Nat.reduceSub, Nat.reduceLT, true_and, and_true, List.dropLast_singleton, List.length_singleton, if_true, if_false, Bool.not_true, Bool.not_false, Option.some.injEq, exists_eq_left', exists_eq_left, reduceCtorEq, Bool.false_eq_true, ite_true, ite_false, Option.isSome_some, ixL, ixT, ixS, at0, at1, at2, cmpI_int, add_int, sub_int, int_int, neg_int, is_non, Dv.int.injEq, Dv.bl.injEq, Dv.ref.injEq, Dv.tup.injEq, Dv.lst.injEq, Ob.lst.injEq, Ob.ins.injEq, decide_eq_true_eq, Prod.mk.injEq, and_assoc, exists_and_left, List.cons.injEq, ix30, ix31, ix32, szOk_le, Nat.reduceLeDiff, p59, p30, p6, p12, p18, ↓ok_src, ↓src_lst, ↓src_tup, ↓src_str, ↓src_scr, ↓ok_prt, ↓ok_lcN, ↓ok_sortSet, ↓ok_sortK0, ↓to_Ng, ↓go_par, ↓ok_dmNil, ↓ok_dmV, ↓ok_dmN, ↓to_stIs0, ↓to_stIs, ↓to_stIv, ↓to_stIn, ↓ok_andV, ↓ok_orV, tru_bl, tru_lst, ↓ok_chain, wipe0, wipe1, unwipe0, unwipe1, noOwn0, noOwn1, unown_no, unown_val, ↓ok_yes, List.getD_cons_zero, List.getD_cons_succ, List.getD_nil, Bool.true_and, Bool.and_true, incr, decide_true, Nat.zero_le, Nat.le_refl, eq_int, ne_int, nn_non, nn_int, nn_str, nn_bl, nn_tup, nn_lst, nn_ref, x_tt, x_tf, x_ft, x_ff, up_no, seqK_lst, seqK_tup, seqD_lst, seqD_tup, ↓ok_err, ↓go_er, ↓go_never, ↓ok_mkS, ↓ok_mkS0, ↓ok_prop, List.dropLast_cons₂, List.dropLast_nil, ↓ok_mkX]
  refine mk_Unknown fun m11 e11 x11 => ?_
  simp (maxSteps := 2000000) only [↓go_seq, ↓go_next, ↓go_cont, ↓go_break, ↓go_retN, ↓go_ret, ↓go_if, ↓go_drop, ↓go_asg, ↓to_V, ↓to_tup, ↓to_cons, ↓to_nil, ↓ok_c, ↓ok_dv, ↓ok_op, ↓ok_un, ↓ok_nil, ↓ok_cons, ↓ok_tup, ↓ok_lst, ↓ok_tru, ↓ok_test, ↓ok_notB, ↓ok_andB, ↓ok_orB, ↓ok_ifE, ↓ok_notV, ↓ok_fn, ↓ok_cb, ↓ok_cm, ↓ok_var, ↓ok_slot, look_slot, look_dv, lookDv_int, lookDv_str, lookDv_bl, lookDv_non, lookDv_tup, lookDv_lst, lookDv_scr, lookDv_ty, lookDv_cls, ↓ok_lstN, push_def, ↓go_asgN, ↓to_N0, ↓ok_settle, ↓ok_store, ↓ok_opN, ↓ok_cn, ↓ok_mut, ↓go_setIx, list_slot, put_slot, ↓ok_fld, ↓go_setF, ↓ok_mt, ↓ok_mk, ↓go_for, ↓ok_rng1, ↓ok_rng2, ↓ok_enum, ↓ok_zip, ↓ok_no, ↓ok_sl, ↓ok_ite, ↓go_ite, ↓ok_ok, ↓ok_stuck, ↓go_stuck, startL, List.map_cons, List.map_nil, List.length_cons, List.length_nil, List.replicate, List.append_nil, List.nil_append, List.cons_append, List.getElem?_cons_zero, List.getElem?_cons_succ, List.set_cons_zero, List.set_cons_succ, Option.bind_some, lookAll, List.getElem?_nil, Nat.zero_add, Nat.reduceAdd, Nat.reduceSub, Nat.reduceLT, true_and, and_true, List.dropLast_singleton, List.length_singleton, if_true, if_false, Bool.not_true, Bool.not_false, Option.some.injEq, exists_eq_left', exists_eq_left, reduceCtorEq, Bool.false_eq_true, ite_true, ite_false, Option.isSome_some, ixL, ixT, ixS, at0, at1, at2, cmpI_int, add_int, sub_int, int_int, neg_int, is_non, Dv.int.injEq, Dv.bl.injEq, Dv.ref.injEq, Dv.tup.injEq, Dv.lst.injEq, Ob.lst.injEq, Ob.ins.injEq, decide_eq_true_eq, Prod.mk.injEq, and_assoc, exists_and_left, List.cons.injEq, ix30, ix31, ix32, szOk_le, Nat.reduceLeDiff, p59, p30, p6, p12, p18, ↓ok_src, ↓src_lst, ↓src_tup, ↓src_str, ↓src_scr, ↓ok_prt, ↓ok_lcN, ↓ok_sortSet, ↓ok_sortK0, ↓to_Ng, ↓go_par, ↓ok_dmNil, ↓ok_dmV, ↓ok_dmN, ↓to_stIs0, ↓to_stIs, ↓to_stIv, ↓to_stIn, ↓ok_andV, ↓ok_orV, tru_bl, tru_lst, ↓ok_chain, wipe0, wipe1, unwipe0, unwipe1, noOwn0, noOwn1, unown_no, unown_val, ↓ok_yes, List.getD_cons_zero, List.getD_cons_succ, List.getD_nil, Bool.true_and, Bool.and_true, incr, decide_true, Nat.zero_le, Nat.le_refl, eq_int, ne_int, nn_non, nn_int, nn_str, nn_bl, nn_tup, nn_lst, nn_ref, x_tt, x_tf, x_ft, x_ff, up_no, seqK_lst, seqK_tup, seqD_lst, seqD_tup, ↓ok_err, ↓go_er, ↓go_never, ↓ok_mkS, ↓ok_mkS0, ↓ok_prop, List.dropLast_cons₂, List.dropLast_nil, ↓ok_mkX, B__law_right_3]
  refine mk_Unknown fun m12 e12 x12 => ?_
  simp (maxSteps := 2000000) only [↓go_seq, ↓go_next, ↓go_cont, ↓go_break, ↓go_retN, ↓go_ret, ↓go_if, ↓go_drop, ↓go_asg, ↓to_V, ↓to_tup, ↓to_cons, ↓to_nil, ↓ok_c, ↓ok_dv, ↓ok_op, ↓ok_un, ↓ok_nil, ↓ok_cons, ↓ok_tup, ↓ok_lst, ↓ok_tru, ↓ok_test, ↓ok_notB, ↓ok_andB, ↓ok_orB, ↓ok_ifE, ↓ok_notV, ↓ok_fn, ↓ok_cb, ↓ok_cm, ↓ok_var, ↓ok_slot, look_slot, look_dv, lookDv_int, lookDv_str, lookDv_bl, lookDv_non, lookDv_tup, lookDv_lst, lookDv_scr, lookDv_ty, lookDv_cls, ↓ok_lstN, push_def, ↓go_asgN, ↓to_N0, ↓ok_settle, ↓ok_store, ↓ok_opN, ↓ok_cn, ↓ok_mut, ↓go_setIx, list_slot, put_slot, ↓ok_fld, ↓go_setF, ↓ok_mt, ↓ok_mk, ↓go_for, ↓ok_rng1, ↓ok_rng2, ↓ok_enum, ↓ok_zip, ↓ok_no, ↓ok_sl, ↓ok_ite, ↓go_ite, ↓ok_ok, ↓ok_stuck, ↓go_stuck, startL, List.map_cons, List.map_nil, List.length_cons, List.length_nil, List.replicate, List.append_nil, List.nil_append, List.cons_append, List.getElem?_cons_zero, List.getElem?_cons_succ, List.set_cons_zero, List.set_cons_succ, Option.bind_some, lookAll, List.getElem?_nil, Nat.zero_add, Nat.reduceAdd, Nat.reduceSub, Nat.reduceLT, true_and, and_true, List.dropLast_singleton, List.length_singleton, if_true, if_false, Bool.not_true, Bool.not_false, Option.some.injEq, exists_eq_left', exists_eq_left, reduceCtorEq, Bool.false_eq_true, ite_true, ite_false, Option.isSome_some, ixL, ixT, ixS, at0, at1, at2, cmpI_int, add_int, sub_int, int_int, neg_int, is_non, Dv.int.injEq, Dv.bl.injEq, Dv.ref.injEq, Dv.tup.injEq, Dv.lst.injEq, Ob.lst.injEq, Ob.ins.injEq, decide_eq_true_eq, Prod.mk.injEq, and_assoc, exists_and_left, List.cons.injEq, ix30, ix31, ix32, szOk_le, Nat.reduceLeDiff, p59, p30, p6, p12, p18, ↓ok_src, ↓src_lst, ↓src_tup, ↓src_str, ↓src_scr, ↓ok_prt, ↓ok_lcN, ↓ok_sortSet, ↓ok_sortK0, ↓to_Ng, ↓go_par, ↓ok_dmNil, ↓ok_dmV, ↓ok_dmN, ↓to_stIs0, ↓to_stIs, ↓to_stIv, ↓to_stIn, ↓ok_andV, ↓ok_orV, tru_bl, tru_lst, ↓ok_chain, wipe0, wipe1, unwipe0, unwipe1, noOwn0, noOwn1, unown_no, unown_val, ↓ok_yes, List.getD_cons_zero, List.getD_cons_succ, List.getD_nil, Bool.true_and, Bool.and_true, incr, decide_true, Nat.zero_le, Nat.le_refl, eq_int, ne_int, nn_non, nn_int, nn_str, nn_bl, nn_tup, nn_lst, nn_ref, x_tt, x_tf, x_ft, x_ff, up_no, seqK_lst, seqK_tup, seqD_lst, seqD_tup, ↓ok_err, ↓go_er, ↓go_never, ↓ok_mkS, ↓ok_mkS0, ↓ok_prop, List.dropLast_cons₂, List.dropLast_nil, ↓ok_mkX]
  refine mk_Twice fun m13 e13 x13 => ?_
  simp (maxSteps := 2000000) only [↓go_seq, ↓go_next, ↓go_cont, ↓go_break, ↓go_retN, ↓go_ret, ↓go_if, ↓go_drop, ↓go_asg, ↓to_V, ↓to_tup, ↓to_cons, ↓to_nil, ↓ok_c, ↓ok_dv, ↓ok_op, ↓ok_un, ↓ok_nil, ↓ok_cons, ↓ok_tup, ↓ok_lst, ↓ok_tru, ↓ok_test, ↓ok_notB, ↓ok_andB, ↓ok_orB, ↓ok_ifE, ↓ok_notV, ↓ok_fn, ↓ok_cb, ↓ok_cm, ↓ok_var, ↓ok_slot, look_slot, look_dv, lookDv_int, lookDv_str, lookDv_bl, lookDv_non, lookDv_tup, lookDv_lst, lookDv_scr, lookDv_ty, lookDv_cls, ↓ok_lstN, push_def, ↓go_asgN, ↓to_N0, ↓ok_settle, ↓ok_store, ↓ok_opN, ↓ok_cn, ↓ok_mut, ↓go_setIx, list_slot, put_slot, ↓ok_fld, ↓go_setF, ↓ok_mt, ↓ok_mk, ↓go_for, ↓ok_rng1, ↓ok_rng2, ↓ok_enum, ↓ok_zip, ↓ok_no, ↓ok_sl, ↓ok_ite, ↓go_ite, ↓ok_ok, ↓ok_stuck, ↓go_stuck, startL, List.map_cons, List.map_nil, List.length_cons, List.length_nil, List.replicate, List.append_nil, List.nil_append, List.cons_append, List.getElem?_cons_zero, List.getElem?_cons_succ, List.set_cons_zero, List.set_cons_succ, Option.bind_some, lookAll, List.getElem?_nil, Nat.zero_add, Nat.reduceAdd, Nat.reduceSub, Nat.reduceLT, true_and, and_true, List.dropLast_singleton, List.length_singleton, if_true, if_false, Bool.not_true, Bool.not_false, Option.some.injEq, exists_eq_left', exists_eq_left, reduceCtorEq, Bool.false_eq_true, ite_true, ite_false, Option.isSome_some, ixL, ixT, ixS, at0, at1, at2, cmpI_int, add_int, sub_int, int_int, neg_int, is_non, Dv.int.injEq, Dv.bl.injEq, Dv.ref.injEq, Dv.tup.injEq, Dv.lst.injEq, Ob.lst.injEq, Ob.ins.injEq, decide_eq_true_eq, Prod.mk.injEq, and_assoc, exists_and_left, List.cons.injEq, ix30, ix31, ix32, szOk_le, Nat.reduceLeDiff, p59, p30, p6, p12, p18, ↓ok_src, ↓src_lst, ↓src_tup, ↓src_str, ↓src_scr, ↓ok_prt, ↓ok_lcN, ↓ok_sortSet, ↓ok_sortK0, ↓to_Ng, ↓go_par, ↓ok_dmNil, ↓ok_dmV, ↓ok_dmN, ↓to_stIs0, ↓to_stIs, ↓to_stIv, ↓to_stIn, ↓ok_andV, ↓ok_orV, tru_bl, tru_lst, ↓ok_chain, wipe0, wipe1, unwipe0, unwipe1, noOwn0, noOwn1, unown_no, unown_val, ↓ok_yes, List.getD_cons_zero, List.getD_cons_succ, List.getD_nil, Bool.true_and, Bool.and_true, incr, decide_true, Nat.zero_le, Nat.le_refl, eq_int, ne_int, nn_non, nn_int, nn_str, nn_bl, nn_tup, nn_lst, nn_ref, x_tt, x_tf, x_ft, x_ff, up_no, seqK_lst, seqK_tup, seqD_lst, seqD_tup, ↓ok_err, ↓go_er, ↓go_never, ↓ok_mkS, ↓ok_mkS0, ↓ok_prop, List.dropLast_cons₂, List.dropLast_nil, ↓ok_mkX]
  refine mk_BadTurns fun m14 e14 x14 => ?_
  have E13 := e14
  have E12 := e13.trans E13
  have E11 := e12.trans E12
  have E10 := e11.trans E11
  have E9 := e10.trans E10
  have E8 := e9.trans E9
  have E7 := e8.trans E8
  have E6 := e7.trans E7
  have E5 := e6.trans E6
  have E4 := e5.trans E5
  have y4 := x4.ext E4
  have y5 := x5.ext E5
  have y6 := x6.ext E6
  have y7 := x7.ext E7
  have y8 := x8.ext E8
  have y9 := x9.ext E9
  have y10 := x10.ext E10
  have y11 := x11.ext E11
  have y12 := x12.ext E12
  have y13 := x13.ext E13
  have b14 : Bag m14 n (k + 108) := (b3.ext e4).ext E4
  have g4 : xget (ctOf xflds) m14 m3.length "index" = some (.int a) := y4.get ct_Unordered_index
  have g5 : xget (ctOf xflds) m14 m4.length "number" = some (.int a) := y5.get ct_BadLine_number
  have g6 : xget (ctOf xflds) m14 m5.length "most" = some (.int a) := y6.get ct_TooMany_most
  have g7 : xget (ctOf xflds) m14 m6.length "number" = some (.int a) := y7.get ct_TooFar_number
  have g8 : xget (ctOf xflds) m14 m7.length "number" = some (.int a) := y8.get ct_NoDay_number
  have g9 : xget (ctOf xflds) m14 m8.length "ends" = some (.str e) := y9.get ct_OtherEnds_ends
  have g10 : xget (ctOf xflds) m14 m9.length "word" = some (.str w) := y10.get ct_NotAllowed_word
  have g11 : xget (ctOf xflds) m14 m10.length "word" = some (.str w) := y11.get ct_Unknown_word
  have g12 : xget (ctOf xflds) m14 m11.length "word" = some (.int a) := y12.get ct_Unknown_word
  have g13 : xget (ctOf xflds) m14 m12.length "number" = some (.int a) := y13.get ct_Twice_number
  have g14 : xget (ctOf xflds) m14 m13.length "turns" = some (.str w) := x14.get ct_BadTurns_turns
  have f1 : fNe (.lst [.int a, .int a, .int a, .int a, .int a, .int a, .int a]) (.lst [.int a, .int a, .int a, .int a, .int a, .int a, .int a]) = some (.bl false) := fNe_self (eqD_pnself (k := 1) (.lst (pnl1 .int (pnl1 .int (pnl1 .int (pnl1 .int (pnl1 .int (pnl1 .int (pnl1 .int pnl0)))))))))
  have f2 : fNe (.lst [.str e, .str w, .str w, .str w]) (.lst [.str e, .str w, .str w, .str w]) = some (.bl false) := fNe_self (eqD_pnself (k := 1) (.lst (pnl1 (.str he) (pnl1 (.str hw) (pnl1 (.str hw) (pnl1 (.str hw) pnl0))))))
  simp (maxSteps := 2000000) only [↓go_seq, ↓go_next, ↓go_cont, ↓go_break, ↓go_retN, ↓go_ret, ↓go_if, ↓go_drop, ↓go_asg, ↓to_V, ↓to_tup, ↓to_cons, ↓to_nil, ↓ok_c, ↓ok_dv, ↓ok_op, ↓ok_un, ↓ok_nil, ↓ok_cons, ↓ok_tup, ↓ok_lst, ↓ok_tru, ↓ok_test, ↓ok_notB, ↓ok_andB, ↓ok_orB, ↓ok_ifE, ↓ok_notV, ↓ok_fn, ↓ok_cb, ↓ok_cm, ↓ok_var, ↓ok_slot, look_slot, look_dv, lookDv_int, lookDv_str, lookDv_bl, lookDv_non, lookDv_tup, lookDv_lst, lookDv_scr, lookDv_ty, lookDv_cls, ↓ok_lstN, push_def, ↓go_asgN, ↓to_N0, ↓ok_settle, ↓ok_store, ↓ok_opN, ↓ok_cn, ↓ok_mut, ↓go_setIx, list_slot, put_slot, ↓ok_fld, ↓go_setF, ↓ok_mt, ↓ok_mk, ↓go_for, ↓ok_rng1, ↓ok_rng2, ↓ok_enum, ↓ok_zip, ↓ok_no, ↓ok_sl, ↓ok_ite, ↓go_ite, ↓ok_ok, ↓ok_stuck, ↓go_stuck, startL, List.map_cons, List.map_nil, List.length_cons, List.length_nil, List.replicate, List.append_nil, List.nil_append, List.cons_append, List.getElem?_cons_zero, List.getElem?_cons_succ, List.set_cons_zero, List.set_cons_succ, Option.bind_some, lookAll, List.getElem?_nil, Nat.zero_add, Nat.reduceAdd, Nat.reduceSub, Nat.reduceLT, true_and, and_true, List.dropLast_singleton, List.length_singleton, if_true, if_false, Bool.not_true, Bool.not_false, Option.some.injEq, exists_eq_left', exists_eq_left, reduceCtorEq, Bool.false_eq_true, ite_true, ite_false, Option.isSome_some, ixL, ixT, ixS, at0, at1, at2, cmpI_int, add_int, sub_int, int_int, neg_int, is_non, Dv.int.injEq, Dv.bl.injEq, Dv.ref.injEq, Dv.tup.injEq, Dv.lst.injEq, Ob.lst.injEq, Ob.ins.injEq, decide_eq_true_eq, Prod.mk.injEq, and_assoc, exists_and_left, List.cons.injEq, ix30, ix31, ix32, szOk_le, Nat.reduceLeDiff, p59, p30, p6, p12, p18, ↓ok_src, ↓src_lst, ↓src_tup, ↓src_str, ↓src_scr, ↓ok_prt, ↓ok_lcN, ↓ok_sortSet, ↓ok_sortK0, ↓to_Ng, ↓go_par, ↓ok_dmNil, ↓ok_dmV, ↓ok_dmN, ↓to_stIs0, ↓to_stIs, ↓to_stIv, ↓to_stIn, ↓ok_andV, ↓ok_orV, tru_bl, tru_lst, ↓ok_chain, wipe0, wipe1, unwipe0, unwipe1, noOwn0, noOwn1, unown_no, unown_val, ↓ok_yes, List.getD_cons_zero, List.getD_cons_succ, List.getD_nil, Bool.true_and, Bool.and_true, incr, decide_true, Nat.zero_le, Nat.le_refl, eq_int, ne_int, nn_non, nn_int, nn_str, nn_bl, nn_tup, nn_lst, nn_ref, x_tt, x_tf, x_ft, x_ff, up_no, seqK_lst, seqK_tup, seqD_lst, seqD_tup, ↓ok_err, ↓go_er, ↓go_never, ↓ok_mkS, ↓ok_mkS0, ↓ok_prop, List.dropLast_cons₂, List.dropLast_nil, ↓ok_xo, B__law_right_4, B__law_right_5, B__law_right_6, g4, g5, g6, g7, g8, g9, g10, g11, g12, g13, g14, mul_seven, f1, f2]
  refine is_own_t y4 in_Unordered (by decide +kernel) (by decide +kernel) ?_
  refine is_own_t y5 in_BadLine (by decide +kernel) (by decide +kernel) ?_
  refine is_own_t y6 in_TooMany (by decide +kernel) (by decide +kernel) ?_
  refine is_own_t y7 in_TooFar (by decide +kernel) (by decide +kernel) ?_
  simp (maxSteps := 2000000) only [↓go_seq, ↓go_next, ↓go_cont, ↓go_break, ↓go_retN, ↓go_ret, ↓go_if, ↓go_drop, ↓go_asg, ↓to_V, ↓to_tup, ↓to_cons, ↓to_nil, ↓ok_c, ↓ok_dv, ↓ok_op, ↓ok_un, ↓ok_nil, ↓ok_cons, ↓ok_tup, ↓ok_lst, ↓ok_tru, ↓ok_test, ↓ok_notB, ↓ok_andB, ↓ok_orB, ↓ok_ifE, ↓ok_notV, ↓ok_fn, ↓ok_cb, ↓ok_cm, ↓ok_var, ↓ok_slot, look_slot, look_dv, lookDv_int, lookDv_str, lookDv_bl, lookDv_non, lookDv_tup, lookDv_lst, lookDv_scr, lookDv_ty, lookDv_cls, ↓ok_lstN, push_def, ↓go_asgN, ↓to_N0, ↓ok_settle, ↓ok_store, ↓ok_opN, ↓ok_cn, ↓ok_mut, ↓go_setIx, list_slot, put_slot, ↓ok_fld, ↓go_setF, ↓ok_mt, ↓ok_mk, ↓go_for, ↓ok_rng1, ↓ok_rng2, ↓ok_enum, ↓ok_zip, ↓ok_no, ↓ok_sl, ↓ok_ite, ↓go_ite, ↓ok_ok, ↓ok_stuck, ↓go_stuck, startL, List.map_cons, List.map_nil, List.length_cons, List.length_nil, List.replicate, List.append_nil, List.nil_append, List.cons_append, List.getElem?_cons_zero, List.getElem?_cons_succ, List.set_cons_zero, List.set_cons_succ, Option.bind_some, lookAll, List.getElem?_nil, Nat.zero_add, Nat.reduceAdd, Nat.reduceSub, Nat.reduceLT, true_and, and_true, List.dropLast_singleton, List.length_singleton, if_true, if_false, Bool.not_true, Bool.not_false, Option.some.injEq, exists_eq_left', exists_eq_left, reduceCtorEq, Bool.false_eq_true, ite_true, ite_false, Option.isSome_some, ixL, ixT, ixS, at0, at1, at2, cmpI_int, add_int, sub_int, int_int, neg_int, is_non, Dv.int.injEq, Dv.bl.injEq, Dv.ref.injEq, Dv.tup.injEq, Dv.lst.injEq, Ob.lst.injEq, Ob.ins.injEq, decide_eq_true_eq, Prod.mk.injEq, and_assoc, exists_and_left, List.cons.injEq, ix30, ix31, ix32, szOk_le, Nat.reduceLeDiff, p59, p30, p6, p12, p18, ↓ok_src, ↓src_lst, ↓src_tup, ↓src_str, ↓src_scr, ↓ok_prt, ↓ok_lcN, ↓ok_sortSet, ↓ok_sortK0, ↓to_Ng, ↓go_par, ↓ok_dmNil, ↓ok_dmV, ↓ok_dmN, ↓to_stIs0, ↓to_stIs, ↓to_stIv, ↓to_stIn, ↓ok_andV, ↓ok_orV, tru_bl, tru_lst, ↓ok_chain, wipe0, wipe1, unwipe0, unwipe1, noOwn0, noOwn1, unown_no, unown_val, ↓ok_yes, List.getD_cons_zero, List.getD_cons_succ, List.getD_nil, Bool.true_and, Bool.and_true, incr, decide_true, Nat.zero_le, Nat.le_refl, eq_int, ne_int, nn_non, nn_int, nn_str, nn_bl, nn_tup, nn_lst, nn_ref, x_tt, x_tf, x_ft, x_ff, up_no, seqK_lst, seqK_tup, seqD_lst, seqD_tup, ↓ok_err, ↓go_er, ↓go_never, ↓ok_mkS, ↓ok_mkS0, ↓ok_prop, List.dropLast_cons₂, List.dropLast_nil, all_four, B__law_right_7]
  refine is_own_t y8 in_NoDay (by decide +kernel) (by decide +kernel) ?_
  refine is_own_t y9 in_OtherEnds (by decide +kernel) (by decide +kernel) ?_
  refine is_own_t y10 in_NotAllowed (by decide +kernel) (by decide +kernel) ?_
  refine is_own_t y11 in_Unknown (by decide +kernel) (by decide +kernel) ?_
  simp (maxSteps := 2000000) only [↓go_seq, ↓go_next, ↓go_cont, ↓go_break, ↓go_retN, ↓go_ret, ↓go_if, ↓go_drop, ↓go_asg, ↓to_V, ↓to_tup, ↓to_cons, ↓to_nil, ↓ok_c, ↓ok_dv, ↓ok_op, ↓ok_un, ↓ok_nil, ↓ok_cons, ↓ok_tup, ↓ok_lst, ↓ok_tru, ↓ok_test, ↓ok_notB, ↓ok_andB, ↓ok_orB, ↓ok_ifE, ↓ok_notV, ↓ok_fn, ↓ok_cb, ↓ok_cm, ↓ok_var, ↓ok_slot, look_slot, look_dv, lookDv_int, lookDv_str, lookDv_bl, lookDv_non, lookDv_tup, lookDv_lst, lookDv_scr, lookDv_ty, lookDv_cls, ↓ok_lstN, push_def, ↓go_asgN, ↓to_N0, ↓ok_settle, ↓ok_store, ↓ok_opN, ↓ok_cn, ↓ok_mut, ↓go_setIx, list_slot, put_slot, ↓ok_fld, ↓go_setF, ↓ok_mt, ↓ok_mk, ↓go_for, ↓ok_rng1, ↓ok_rng2, ↓ok_enum, ↓ok_zip, ↓ok_no, ↓ok_sl, ↓ok_ite, ↓go_ite, ↓ok_ok, ↓ok_stuck, ↓go_stuck, startL, List.map_cons, List.map_nil, List.length_cons, List.length_nil, List.replicate, List.append_nil, List.nil_append, List.cons_append, List.getElem?_cons_zero, List.getElem?_cons_succ, List.set_cons_zero, List.set_cons_succ, Option.bind_some, lookAll, List.getElem?_nil, Nat.zero_add, Nat.reduceAdd, Nat.reduceSub, Nat.reduceLT, true_and, and_true, List.dropLast_singleton, List.length_singleton, if_true, if_false, Bool.not_true, Bool.not_false, Option.some.injEq, exists_eq_left', exists_eq_left, reduceCtorEq, Bool.false_eq_true, ite_true, ite_false, Option.isSome_some, ixL, ixT, ixS, at0, at1, at2, cmpI_int, add_int, sub_int, int_int, neg_int, is_non, Dv.int.injEq, Dv.bl.injEq, Dv.ref.injEq, Dv.tup.injEq, Dv.lst.injEq, Ob.lst.injEq, Ob.ins.injEq, decide_eq_true_eq, Prod.mk.injEq, and_assoc, exists_and_left, List.cons.injEq, ix30, ix31, ix32, szOk_le, Nat.reduceLeDiff, p59, p30, p6, p12, p18, ↓ok_src, ↓src_lst, ↓src_tup, ↓src_str, ↓src_scr, ↓ok_prt, ↓ok_lcN, ↓ok_sortSet, ↓ok_sortK0, ↓to_Ng, ↓go_par, ↓ok_dmNil, ↓ok_dmV, ↓ok_dmN, ↓to_stIs0, ↓to_stIs, ↓to_stIv, ↓to_stIn, ↓ok_andV, ↓ok_orV, tru_bl, tru_lst, ↓ok_chain, wipe0, wipe1, unwipe0, unwipe1, noOwn0, noOwn1, unown_no, unown_val, ↓ok_yes, List.getD_cons_zero, List.getD_cons_succ, List.getD_nil, Bool.true_and, Bool.and_true, incr, decide_true, Nat.zero_le, Nat.le_refl, eq_int, ne_int, nn_non, nn_int, nn_str, nn_bl, nn_tup, nn_lst, nn_ref, x_tt, x_tf, x_ft, x_ff, up_no, seqK_lst, seqK_tup, seqD_lst, seqD_tup, ↓ok_err, ↓go_er, ↓go_never, ↓ok_mkS, ↓ok_mkS0, ↓ok_prop, List.dropLast_cons₂, List.dropLast_nil, all_four, B__law_right_8]
  refine is_own_t y12 in_Unknown (by decide +kernel) (by decide +kernel) ?_
  simp (maxSteps := 2000000) only [↓go_seq, ↓go_next, ↓go_cont, ↓go_break, ↓go_retN, ↓go_ret, ↓go_if, ↓go_drop, ↓go_asg, ↓to_V, ↓to_tup, ↓to_cons, ↓to_nil, ↓ok_c, ↓ok_dv, ↓ok_op, ↓ok_un, ↓ok_nil, ↓ok_cons, ↓ok_tup, ↓ok_lst, ↓ok_tru, ↓ok_test, ↓ok_notB, ↓ok_andB, ↓ok_orB, ↓ok_ifE, ↓ok_notV, ↓ok_fn, ↓ok_cb, ↓ok_cm, ↓ok_var, ↓ok_slot, look_slot, look_dv, lookDv_int, lookDv_str, lookDv_bl, lookDv_non, lookDv_tup, lookDv_lst, lookDv_scr, lookDv_ty, lookDv_cls, ↓ok_lstN, push_def, ↓go_asgN, ↓to_N0, ↓ok_settle, ↓ok_store, ↓ok_opN, ↓ok_cn, ↓ok_mut, ↓go_setIx, list_slot, put_slot, ↓ok_fld, ↓go_setF, ↓ok_mt, ↓ok_mk, ↓go_for, ↓ok_rng1, ↓ok_rng2, ↓ok_enum, ↓ok_zip, ↓ok_no, ↓ok_sl, ↓ok_ite, ↓go_ite, ↓ok_ok, ↓ok_stuck, ↓go_stuck, startL, List.map_cons, List.map_nil, List.length_cons, List.length_nil, List.replicate, List.append_nil, List.nil_append, List.cons_append, List.getElem?_cons_zero, List.getElem?_cons_succ, List.set_cons_zero, List.set_cons_succ, Option.bind_some, lookAll, List.getElem?_nil, Nat.zero_add, Nat.reduceAdd, Nat.reduceSub, Nat.reduceLT, true_and, and_true, List.dropLast_singleton, List.length_singleton, if_true, if_false, Bool.not_true, Bool.not_false, Option.some.injEq, exists_eq_left', exists_eq_left, reduceCtorEq, Bool.false_eq_true, ite_true, ite_false, Option.isSome_some, ixL, ixT, ixS, at0, at1, at2, cmpI_int, add_int, sub_int, int_int, neg_int, is_non, Dv.int.injEq, Dv.bl.injEq, Dv.ref.injEq, Dv.tup.injEq, Dv.lst.injEq, Ob.lst.injEq, Ob.ins.injEq, decide_eq_true_eq, Prod.mk.injEq, and_assoc, exists_and_left, List.cons.injEq, ix30, ix31, ix32, szOk_le, Nat.reduceLeDiff, p59, p30, p6, p12, p18, ↓ok_src, ↓src_lst, ↓src_tup, ↓src_str, ↓src_scr, ↓ok_prt, ↓ok_lcN, ↓ok_sortSet, ↓ok_sortK0, ↓to_Ng, ↓go_par, ↓ok_dmNil, ↓ok_dmV, ↓ok_dmN, ↓to_stIs0, ↓to_stIs, ↓to_stIv, ↓to_stIn, ↓ok_andV, ↓ok_orV, tru_bl, tru_lst, ↓ok_chain, wipe0, wipe1, unwipe0, unwipe1, noOwn0, noOwn1, unown_no, unown_val, ↓ok_yes, List.getD_cons_zero, List.getD_cons_succ, List.getD_nil, Bool.true_and, Bool.and_true, incr, decide_true, Nat.zero_le, Nat.le_refl, eq_int, ne_int, nn_non, nn_int, nn_str, nn_bl, nn_tup, nn_lst, nn_ref, x_tt, x_tf, x_ft, x_ff, up_no, seqK_lst, seqK_tup, seqD_lst, seqD_tup, ↓ok_err, ↓go_er, ↓go_never, ↓ok_mkS, ↓ok_mkS0, ↓ok_prop, List.dropLast_cons₂, List.dropLast_nil]
  refine is_own_t y13 in_Twice (by decide +kernel) (by decide +kernel) ?_
  simp (maxSteps := 2000000) only [↓go_seq, ↓go_next, ↓go_cont, ↓go_break, ↓go_retN, ↓go_ret, ↓go_if, ↓go_drop, ↓go_asg, ↓to_V, ↓to_tup, ↓to_cons, ↓to_nil, ↓ok_c, ↓ok_dv, ↓ok_op, ↓ok_un, ↓ok_nil, ↓ok_cons, ↓ok_tup, ↓ok_lst, ↓ok_tru, ↓ok_test, ↓ok_notB, ↓ok_andB, ↓ok_orB, ↓ok_ifE, ↓ok_notV, ↓ok_fn, ↓ok_cb, ↓ok_cm, ↓ok_var, ↓ok_slot, look_slot, look_dv, lookDv_int, lookDv_str, lookDv_bl, lookDv_non, lookDv_tup, lookDv_lst, lookDv_scr, lookDv_ty, lookDv_cls, ↓ok_lstN, push_def, ↓go_asgN, ↓to_N0, ↓ok_settle, ↓ok_store, ↓ok_opN, ↓ok_cn, ↓ok_mut, ↓go_setIx, list_slot, put_slot, ↓ok_fld, ↓go_setF, ↓ok_mt, ↓ok_mk, ↓go_for, ↓ok_rng1, ↓ok_rng2, ↓ok_enum, ↓ok_zip, ↓ok_no, ↓ok_sl, ↓ok_ite, ↓go_ite, ↓ok_ok, ↓ok_stuck, ↓go_stuck, startL, List.map_cons, List.map_nil, List.length_cons, List.length_nil, List.replicate, List.append_nil, List.nil_append, List.cons_append, List.getElem?_cons_zero, List.getElem?_cons_succ, List.set_cons_zero, List.set_cons_succ, Option.bind_some, lookAll, List.getElem?_nil, Nat.zero_add, Nat.reduceAdd, Nat.reduceSub, Nat.reduceLT, true_and, and_true, List.dropLast_singleton, List.length_singleton, if_true, if_false, Bool.not_true, Bool.not_false, Option.some.injEq, exists_eq_left', exists_eq_left, reduceCtorEq, Bool.false_eq_true, ite_true, ite_false, Option.isSome_some, ixL, ixT, ixS, at0, at1, at2, cmpI_int, add_int, sub_int, int_int, neg_int, is_non, Dv.int.injEq, Dv.bl.injEq, Dv.ref.injEq, Dv.tup.injEq, Dv.lst.injEq, Ob.lst.injEq, Ob.ins.injEq, decide_eq_true_eq, Prod.mk.injEq, and_assoc, exists_and_left, List.cons.injEq, ix30, ix31, ix32, szOk_le, Nat.reduceLeDiff, p59, p30, p6, p12, p18, ↓ok_src, ↓src_lst, ↓src_tup, ↓src_str, ↓src_scr, ↓ok_prt, ↓ok_lcN, ↓ok_sortSet, ↓ok_sortK0, ↓to_Ng, ↓go_par, ↓ok_dmNil, ↓ok_dmV, ↓ok_dmN, ↓to_stIs0, ↓to_stIs, ↓to_stIv, ↓to_stIn, ↓ok_andV, ↓ok_orV, tru_bl, tru_lst, ↓ok_chain, wipe0, wipe1, unwipe0, unwipe1, noOwn0, noOwn1, unown_no, unown_val, ↓ok_yes, List.getD_cons_zero, List.getD_cons_succ, List.getD_nil, Bool.true_and, Bool.and_true, incr, decide_true, Nat.zero_le, Nat.le_refl, eq_int, ne_int, nn_non, nn_int, nn_str, nn_bl, nn_tup, nn_lst, nn_ref, x_tt, x_tf, x_ft, x_ff, up_no, seqK_lst, seqK_tup, seqD_lst, seqD_tup, ↓ok_err, ↓go_er, ↓go_never, ↓ok_mkS, ↓ok_mkS0, ↓ok_prop, List.dropLast_cons₂, List.dropLast_nil]
  refine is_own_t x14 in_BadTurns (by decide +kernel) (by decide +kernel) ?_
  simp (maxSteps := 2000000) only [↓go_seq, ↓go_next, ↓go_cont, ↓go_break, ↓go_retN, ↓go_ret, ↓go_if, ↓go_drop, ↓go_asg, ↓to_V, ↓to_tup, ↓to_cons, ↓to_nil, ↓ok_c, ↓ok_dv, ↓ok_op, ↓ok_un, ↓ok_nil, ↓ok_cons, ↓ok_tup, ↓ok_lst, ↓ok_tru, ↓ok_test, ↓ok_notB, ↓ok_andB, ↓ok_orB, ↓ok_ifE, ↓ok_notV, ↓ok_fn, ↓ok_cb, ↓ok_cm, ↓ok_var, ↓ok_slot, look_slot, look_dv, lookDv_int, lookDv_str, lookDv_bl, lookDv_non, lookDv_tup, lookDv_lst, lookDv_scr, lookDv_ty, lookDv_cls, ↓ok_lstN, push_def, ↓go_asgN, ↓to_N0, ↓ok_settle, ↓ok_store, ↓ok_opN, ↓ok_cn, ↓ok_mut, ↓go_setIx, list_slot, put_slot, ↓ok_fld, ↓go_setF, ↓ok_mt, ↓ok_mk, ↓go_for, ↓ok_rng1, ↓ok_rng2, ↓ok_enum, ↓ok_zip, ↓ok_no, ↓ok_sl, ↓ok_ite, ↓go_ite, ↓ok_ok, ↓ok_stuck, ↓go_stuck, startL, List.map_cons, List.map_nil, List.length_cons, List.length_nil, List.replicate, List.append_nil, List.nil_append, List.cons_append, List.getElem?_cons_zero, List.getElem?_cons_succ, List.set_cons_zero, List.set_cons_succ, Option.bind_some, lookAll, List.getElem?_nil, Nat.zero_add, Nat.reduceAdd, Nat.reduceSub, Nat.reduceLT, true_and, and_true, List.dropLast_singleton, List.length_singleton, if_true, if_false, Bool.not_true, Bool.not_false, Option.some.injEq, exists_eq_left', exists_eq_left, reduceCtorEq, Bool.false_eq_true, ite_true, ite_false, Option.isSome_some, ixL, ixT, ixS, at0, at1, at2, cmpI_int, add_int, sub_int, int_int, neg_int, is_non, Dv.int.injEq, Dv.bl.injEq, Dv.ref.injEq, Dv.tup.injEq, Dv.lst.injEq, Ob.lst.injEq, Ob.ins.injEq, decide_eq_true_eq, Prod.mk.injEq, and_assoc, exists_and_left, List.cons.injEq, ix30, ix31, ix32, szOk_le, Nat.reduceLeDiff, p59, p30, p6, p12, p18, ↓ok_src, ↓src_lst, ↓src_tup, ↓src_str, ↓src_scr, ↓ok_prt, ↓ok_lcN, ↓ok_sortSet, ↓ok_sortK0, ↓to_Ng, ↓go_par, ↓ok_dmNil, ↓ok_dmV, ↓ok_dmN, ↓to_stIs0, ↓to_stIs, ↓to_stIv, ↓to_stIn, ↓ok_andV, ↓ok_orV, tru_bl, tru_lst, ↓ok_chain, wipe0, wipe1, unwipe0, unwipe1, noOwn0, noOwn1, unown_no, unown_val, ↓ok_yes, List.getD_cons_zero, List.getD_cons_succ, List.getD_nil, Bool.true_and, Bool.and_true, incr, decide_true, Nat.zero_le, Nat.le_refl, eq_int, ne_int, nn_non, nn_int, nn_str, nn_bl, nn_tup, nn_lst, nn_ref, x_tt, x_tf, x_ft, x_ff, up_no, seqK_lst, seqK_tup, seqD_lst, seqD_tup, ↓ok_err, ↓go_er, ↓go_never, ↓ok_mkS, ↓ok_mkS0, ↓ok_prop, List.dropLast_cons₂, List.dropLast_nil, ↓ok_mkX0, B__law_right_9]
  refine is_own_t XAt.at0 in_NothingWrong (by decide +kernel) (by decide +kernel) ?_
  simp (maxSteps := 2000000) only [↓go_seq, ↓go_next, ↓go_cont, ↓go_break, ↓go_retN, ↓go_ret, ↓go_if, ↓go_drop, ↓go_asg, ↓to_V, ↓to_tup, ↓to_cons, ↓to_nil, ↓ok_c, ↓ok_dv, ↓ok_op, ↓ok_un, ↓ok_nil, ↓ok_cons, ↓ok_tup, ↓ok_lst, ↓ok_tru, ↓ok_test, ↓ok_notB, ↓ok_andB, ↓ok_orB, ↓ok_ifE, ↓ok_notV, ↓ok_fn, ↓ok_cb, ↓ok_cm, ↓ok_var, ↓ok_slot, look_slot, look_dv, lookDv_int, lookDv_str, lookDv_bl, lookDv_non, lookDv_tup, lookDv_lst, lookDv_scr, lookDv_ty, lookDv_cls, ↓ok_lstN, push_def, ↓go_asgN, ↓to_N0, ↓ok_settle, ↓ok_store, ↓ok_opN, ↓ok_cn, ↓ok_mut, ↓go_setIx, list_slot, put_slot, ↓ok_fld, ↓go_setF, ↓ok_mt, ↓ok_mk, ↓go_for, ↓ok_rng1, ↓ok_rng2, ↓ok_enum, ↓ok_zip, ↓ok_no, ↓ok_sl, ↓ok_ite, ↓go_ite, ↓ok_ok, ↓ok_stuck, ↓go_stuck, startL, List.map_cons, List.map_nil, List.length_cons, List.length_nil, List.replicate, List.append_nil, List.nil_append, List.cons_append, List.getElem?_cons_zero, List.getElem?_cons_succ, List.set_cons_zero, List.set_cons_succ, Option.bind_some, lookAll, List.getElem?_nil, Nat.zero_add, Nat.reduceAdd, Nat.reduceSub, Nat.reduceLT, true_and, and_true, List.dropLast_singleton, List.length_singleton, if_true, if_false, Bool.not_true, Bool.not_false, Option.some.injEq, exists_eq_left', exists_eq_left, reduceCtorEq, Bool.false_eq_true, ite_true, ite_false, Option.isSome_some, ixL, ixT, ixS, at0, at1, at2, cmpI_int, add_int, sub_int, int_int, neg_int, is_non, Dv.int.injEq, Dv.bl.injEq, Dv.ref.injEq, Dv.tup.injEq, Dv.lst.injEq, Ob.lst.injEq, Ob.ins.injEq, decide_eq_true_eq, Prod.mk.injEq, and_assoc, exists_and_left, List.cons.injEq, ix30, ix31, ix32, szOk_le, Nat.reduceLeDiff, p59, p30, p6, p12, p18, ↓ok_src, ↓src_lst, ↓src_tup, ↓src_str, ↓src_scr, ↓ok_prt, ↓ok_lcN, ↓ok_sortSet, ↓ok_sortK0, ↓to_Ng, ↓go_par, ↓ok_dmNil, ↓ok_dmV, ↓ok_dmN, ↓to_stIs0, ↓to_stIs, ↓to_stIv, ↓to_stIn, ↓ok_andV, ↓ok_orV, tru_bl, tru_lst, ↓ok_chain, wipe0, wipe1, unwipe0, unwipe1, noOwn0, noOwn1, unown_no, unown_val, ↓ok_yes, List.getD_cons_zero, List.getD_cons_succ, List.getD_nil, Bool.true_and, Bool.and_true, incr, decide_true, Nat.zero_le, Nat.le_refl, eq_int, ne_int, nn_non, nn_int, nn_str, nn_bl, nn_tup, nn_lst, nn_ref, x_tt, x_tf, x_ft, x_ff, up_no, seqK_lst, seqK_tup, seqD_lst, seqD_tup, ↓ok_err, ↓go_er, ↓go_never, ↓ok_mkS, ↓ok_mkS0, ↓ok_prop, List.dropLast_cons₂, List.dropLast_nil, ↓ok_mkX0]
  refine is_own_t XAt.at0 in_NoScene (by decide +kernel) (by decide +kernel) ?_
  simp (maxSteps := 2000000) only [↓go_seq, ↓go_next, ↓go_cont, ↓go_break, ↓go_retN, ↓go_ret, ↓go_if, ↓go_drop, ↓go_asg, ↓to_V, ↓to_tup, ↓to_cons, ↓to_nil, ↓ok_c, ↓ok_dv, ↓ok_op, ↓ok_un, ↓ok_nil, ↓ok_cons, ↓ok_tup, ↓ok_lst, ↓ok_tru, ↓ok_test, ↓ok_notB, ↓ok_andB, ↓ok_orB, ↓ok_ifE, ↓ok_notV, ↓ok_fn, ↓ok_cb, ↓ok_cm, ↓ok_var, ↓ok_slot, look_slot, look_dv, lookDv_int, lookDv_str, lookDv_bl, lookDv_non, lookDv_tup, lookDv_lst, lookDv_scr, lookDv_ty, lookDv_cls, ↓ok_lstN, push_def, ↓go_asgN, ↓to_N0, ↓ok_settle, ↓ok_store, ↓ok_opN, ↓ok_cn, ↓ok_mut, ↓go_setIx, list_slot, put_slot, ↓ok_fld, ↓go_setF, ↓ok_mt, ↓ok_mk, ↓go_for, ↓ok_rng1, ↓ok_rng2, ↓ok_enum, ↓ok_zip, ↓ok_no, ↓ok_sl, ↓ok_ite, ↓go_ite, ↓ok_ok, ↓ok_stuck, ↓go_stuck, startL, List.map_cons, List.map_nil, List.length_cons, List.length_nil, List.replicate, List.append_nil, List.nil_append, List.cons_append, List.getElem?_cons_zero, List.getElem?_cons_succ, List.set_cons_zero, List.set_cons_succ, Option.bind_some, lookAll, List.getElem?_nil, Nat.zero_add, Nat.reduceAdd, Nat.reduceSub, Nat.reduceLT, true_and, and_true, List.dropLast_singleton, List.length_singleton, if_true, if_false, Bool.not_true, Bool.not_false, Option.some.injEq, exists_eq_left', exists_eq_left, reduceCtorEq, Bool.false_eq_true, ite_true, ite_false, Option.isSome_some, ixL, ixT, ixS, at0, at1, at2, cmpI_int, add_int, sub_int, int_int, neg_int, is_non, Dv.int.injEq, Dv.bl.injEq, Dv.ref.injEq, Dv.tup.injEq, Dv.lst.injEq, Ob.lst.injEq, Ob.ins.injEq, decide_eq_true_eq, Prod.mk.injEq, and_assoc, exists_and_left, List.cons.injEq, ix30, ix31, ix32, szOk_le, Nat.reduceLeDiff, p59, p30, p6, p12, p18, ↓ok_src, ↓src_lst, ↓src_tup, ↓src_str, ↓src_scr, ↓ok_prt, ↓ok_lcN, ↓ok_sortSet, ↓ok_sortK0, ↓to_Ng, ↓go_par, ↓ok_dmNil, ↓ok_dmV, ↓ok_dmN, ↓to_stIs0, ↓to_stIs, ↓to_stIv, ↓to_stIn, ↓ok_andV, ↓ok_orV, tru_bl, tru_lst, ↓ok_chain, wipe0, wipe1, unwipe0, unwipe1, noOwn0, noOwn1, unown_no, unown_val, ↓ok_yes, List.getD_cons_zero, List.getD_cons_succ, List.getD_nil, Bool.true_and, Bool.and_true, incr, decide_true, Nat.zero_le, Nat.le_refl, eq_int, ne_int, nn_non, nn_int, nn_str, nn_bl, nn_tup, nn_lst, nn_ref, x_tt, x_tf, x_ft, x_ff, up_no, seqK_lst, seqK_tup, seqD_lst, seqD_tup, ↓ok_err, ↓go_er, ↓go_never, ↓ok_mkS, ↓ok_mkS0, ↓ok_prop, List.dropLast_cons₂, List.dropLast_nil, ↓ok_mkX0]
  refine is_own_t XAt.at0 in_HasHeads (by decide +kernel) (by decide +kernel) ?_
  simp (maxSteps := 2000000) only [↓go_seq, ↓go_next, ↓go_cont, ↓go_break, ↓go_retN, ↓go_ret, ↓go_if, ↓go_drop, ↓go_asg, ↓to_V, ↓to_tup, ↓to_cons, ↓to_nil, ↓ok_c, ↓ok_dv, ↓ok_op, ↓ok_un, ↓ok_nil, ↓ok_cons, ↓ok_tup, ↓ok_lst, ↓ok_tru, ↓ok_test, ↓ok_notB, ↓ok_andB, ↓ok_orB, ↓ok_ifE, ↓ok_notV, ↓ok_fn, ↓ok_cb, ↓ok_cm, ↓ok_var, ↓ok_slot, look_slot, look_dv, lookDv_int, lookDv_str, lookDv_bl, lookDv_non, lookDv_tup, lookDv_lst, lookDv_scr, lookDv_ty, lookDv_cls, ↓ok_lstN, push_def, ↓go_asgN, ↓to_N0, ↓ok_settle, ↓ok_store, ↓ok_opN, ↓ok_cn, ↓ok_mut, ↓go_setIx, list_slot, put_slot, ↓ok_fld, ↓go_setF, ↓ok_mt, ↓ok_mk, ↓go_for, ↓ok_rng1, ↓ok_rng2, ↓ok_enum, ↓ok_zip, ↓ok_no, ↓ok_sl, ↓ok_ite, ↓go_ite, ↓ok_ok, ↓ok_stuck, ↓go_stuck, startL, List.map_cons, List.map_nil, List.length_cons, List.length_nil, List.replicate, List.append_nil, List.nil_append, List.cons_append, List.getElem?_cons_zero, List.getElem?_cons_succ, List.set_cons_zero, List.set_cons_succ, Option.bind_some, lookAll, List.getElem?_nil, Nat.zero_add, Nat.reduceAdd, Nat.reduceSub, Nat.reduceLT, true_and, and_true, List.dropLast_singleton, List.length_singleton, if_true, if_false, Bool.not_true, Bool.not_false, Option.some.injEq, exists_eq_left', exists_eq_left, reduceCtorEq, Bool.false_eq_true, ite_true, ite_false, Option.isSome_some, ixL, ixT, ixS, at0, at1, at2, cmpI_int, add_int, sub_int, int_int, neg_int, is_non, Dv.int.injEq, Dv.bl.injEq, Dv.ref.injEq, Dv.tup.injEq, Dv.lst.injEq, Ob.lst.injEq, Ob.ins.injEq, decide_eq_true_eq, Prod.mk.injEq, and_assoc, exists_and_left, List.cons.injEq, ix30, ix31, ix32, szOk_le, Nat.reduceLeDiff, p59, p30, p6, p12, p18, ↓ok_src, ↓src_lst, ↓src_tup, ↓src_str, ↓src_scr, ↓ok_prt, ↓ok_lcN, ↓ok_sortSet, ↓ok_sortK0, ↓to_Ng, ↓go_par, ↓ok_dmNil, ↓ok_dmV, ↓ok_dmN, ↓to_stIs0, ↓to_stIs, ↓to_stIv, ↓to_stIn, ↓ok_andV, ↓ok_orV, tru_bl, tru_lst, ↓ok_chain, wipe0, wipe1, unwipe0, unwipe1, noOwn0, noOwn1, unown_no, unown_val, ↓ok_yes, List.getD_cons_zero, List.getD_cons_succ, List.getD_nil, Bool.true_and, Bool.and_true, incr, decide_true, Nat.zero_le, Nat.le_refl, eq_int, ne_int, nn_non, nn_int, nn_str, nn_bl, nn_tup, nn_lst, nn_ref, x_tt, x_tf, x_ft, x_ff, up_no, seqK_lst, seqK_tup, seqD_lst, seqD_tup, ↓ok_err, ↓go_er, ↓go_never, ↓ok_mkS, ↓ok_mkS0, ↓ok_prop, List.dropLast_cons₂, List.dropLast_nil, ↓ok_mkX0, B__law_right_10]
  refine kinds_t XAt.at0 in_RowsError ?_
  simp (maxSteps := 2000000) only [↓go_seq, ↓go_next, ↓go_cont, ↓go_break, ↓go_retN, ↓go_ret, ↓go_if, ↓go_drop, ↓go_asg, ↓to_V, ↓to_tup, ↓to_cons, ↓to_nil, ↓ok_c, ↓ok_dv, ↓ok_op, ↓ok_un, ↓ok_nil, ↓ok_cons, ↓ok_tup, ↓ok_lst, ↓ok_tru, ↓ok_test, ↓ok_notB, ↓ok_andB, ↓ok_orB, ↓ok_ifE, ↓ok_notV, ↓ok_fn, ↓ok_cb, ↓ok_cm, ↓ok_var, ↓ok_slot, look_slot, look_dv, lookDv_int, lookDv_str, lookDv_bl, lookDv_non, lookDv_tup, lookDv_lst, lookDv_scr, lookDv_ty, lookDv_cls, ↓ok_lstN, push_def, ↓go_asgN, ↓to_N0, ↓ok_settle, ↓ok_store, ↓ok_opN, ↓ok_cn, ↓ok_mut, ↓go_setIx, list_slot, put_slot, ↓ok_fld, ↓go_setF, ↓ok_mt, ↓ok_mk, ↓go_for, ↓ok_rng1, ↓ok_rng2, ↓ok_enum, ↓ok_zip, ↓ok_no, ↓ok_sl, ↓ok_ite, ↓go_ite, ↓ok_ok, ↓ok_stuck, ↓go_stuck, startL, List.map_cons, List.map_nil, List.length_cons, List.length_nil, List.replicate, List.append_nil, List.nil_append, List.cons_append, List.getElem?_cons_zero, List.getElem?_cons_succ, List.set_cons_zero, List.set_cons_succ, Option.bind_some, lookAll, List.getElem?_nil, Nat.zero_add, Nat.reduceAdd, Nat.reduceSub, Nat.reduceLT, true_and, and_true, List.dropLast_singleton, List.length_singleton, if_true, if_false, Bool.not_true, Bool.not_false, Option.some.injEq, exists_eq_left', exists_eq_left, reduceCtorEq, Bool.false_eq_true, ite_true, ite_false, Option.isSome_some, ixL, ixT, ixS, at0, at1, at2, cmpI_int, add_int, sub_int, int_int, neg_int, is_non, Dv.int.injEq, Dv.bl.injEq, Dv.ref.injEq, Dv.tup.injEq, Dv.lst.injEq, Ob.lst.injEq, Ob.ins.injEq, decide_eq_true_eq, Prod.mk.injEq, and_assoc, exists_and_left, List.cons.injEq, ix30, ix31, ix32, szOk_le, Nat.reduceLeDiff, p59, p30, p6, p12, p18, ↓ok_src, ↓src_lst, ↓src_tup, ↓src_str, ↓src_scr, ↓ok_prt, ↓ok_lcN, ↓ok_sortSet, ↓ok_sortK0, ↓to_Ng, ↓go_par, ↓ok_dmNil, ↓ok_dmV, ↓ok_dmN, ↓to_stIs0, ↓to_stIs, ↓to_stIv, ↓to_stIn, ↓ok_andV, ↓ok_orV, tru_bl, tru_lst, ↓ok_chain, wipe0, wipe1, unwipe0, unwipe1, noOwn0, noOwn1, unown_no, unown_val, ↓ok_yes, List.getD_cons_zero, List.getD_cons_succ, List.getD_nil, Bool.true_and, Bool.and_true, incr, decide_true, Nat.zero_le, Nat.le_refl, eq_int, ne_int, nn_non, nn_int, nn_str, nn_bl, nn_tup, nn_lst, nn_ref, x_tt, x_tf, x_ft, x_ff, up_no, seqK_lst, seqK_tup, seqD_lst, seqD_tup, ↓ok_err, ↓go_er, ↓go_never, ↓ok_mkS, ↓ok_mkS0, ↓ok_prop, List.dropLast_cons₂, List.dropLast_nil, any_none, is_ff]
  exact pairs_t (k := k) (((b14.ext Ext.app).ext Ext.app).ext Ext.app |>.ext Ext.app |>.mono (by omega)) fun m' => q m'
theorem pure_law0 (ns : List Int) (h : ns.length ≤ 63) (m : List Ob) : Ca (c_law [.scr ns] m) fun y _ => y = .bl true := by
  refine ca_def rfl ?_
  obtain ⟨I, hI⟩ : ∃ I : List Dv → Ls → Prop, ∀ l s, I l s ↔ ∃ x m', s = ⟨[.val (.scr ns), x], m', []⟩ ∧ ∀ d ∈ l, ∃ i : Nat, d = .int i ∧ i < 1000 := ⟨_, fun _ _ => Iff.rfl⟩
  unfold B_law B_law_0 B_law_1
  simp (maxSteps := 2000000) only [↓go_seq, ↓go_next, ↓go_cont, ↓go_break, ↓go_retN, ↓go_ret, ↓go_if, ↓go_drop, ↓go_asg, ↓to_V, ↓to_tup, ↓to_cons, ↓to_nil, ↓ok_c, ↓ok_dv, ↓ok_op, ↓ok_un, ↓ok_nil, ↓ok_cons, ↓ok_tup, ↓ok_lst, ↓ok_tru, ↓ok_test, ↓ok_notB, ↓ok_andB, ↓ok_orB, ↓ok_ifE, ↓ok_notV, ↓ok_fn, ↓ok_cb, ↓ok_cm, ↓ok_var, ↓ok_slot, look_slot, look_dv, lookDv_int, lookDv_str, lookDv_bl, lookDv_non, lookDv_tup, lookDv_lst, lookDv_scr, lookDv_ty, lookDv_cls, ↓ok_lstN, push_def, ↓go_asgN, ↓to_N0, ↓ok_settle, ↓ok_store, ↓ok_opN, ↓ok_cn, ↓ok_mut, ↓go_setIx, list_slot, put_slot, ↓ok_fld, ↓go_setF, ↓ok_mt, ↓ok_mk, ↓go_for, ↓ok_rng1, ↓ok_rng2, ↓ok_enum, ↓ok_zip, ↓ok_no, ↓ok_sl, ↓ok_ite, ↓go_ite, ↓ok_ok, ↓ok_stuck, ↓go_stuck, startL, List.map_cons, List.map_nil, List.length_cons, List.length_nil, List.replicate, List.append_nil, List.nil_append, List.cons_append, List.getElem?_cons_zero, List.getElem?_cons_succ, List.set_cons_zero, List.set_cons_succ, Option.bind_some, lookAll, List.getElem?_nil, Nat.zero_add, Nat.reduceAdd, Nat.reduceSub, Nat.reduceLT, true_and, and_true, List.dropLast_singleton, List.length_singleton, if_true, if_false, Bool.not_true, Bool.not_false, Option.some.injEq, exists_eq_left', exists_eq_left, reduceCtorEq, Bool.false_eq_true, ite_true, ite_false, Option.isSome_some, ixL, ixT, ixS, at0, at1, at2, cmpI_int, add_int, sub_int, int_int, neg_int, is_non, Dv.int.injEq, Dv.bl.injEq, Dv.ref.injEq, Dv.tup.injEq, Dv.lst.injEq, Ob.lst.injEq, Ob.ins.injEq, decide_eq_true_eq, Prod.mk.injEq, and_assoc, exists_and_left, List.cons.injEq, ix30, ix31, ix32, szOk_le, Nat.reduceLeDiff, p59, p30, p6, p12, p18, ↓ok_src, ↓src_lst, ↓src_tup, ↓src_str, ↓src_scr, ↓ok_prt, ↓ok_lcN, ↓ok_sortSet, ↓ok_sortK0, ↓to_Ng, ↓go_par, ↓ok_dmNil, ↓ok_dmV, ↓ok_dmN, ↓to_stIs0, ↓to_stIs, ↓to_stIv, ↓to_stIn, ↓ok_andV, ↓ok_orV, tru_bl, tru_lst, ↓ok_chain, wipe0, wipe1, unwipe0, unwipe1, noOwn0, noOwn1, unown_no, unown_val, ↓ok_yes, List.getD_cons_zero, List.getD_cons_succ, List.getD_nil, Bool.true_and, Bool.and_true, incr, decide_true, Nat.zero_le, Nat.le_refl, eq_int, ne_int, nn_non, nn_int, nn_str, nn_bl, nn_tup, nn_lst, nn_ref, x_tt, x_tf, x_ft, x_ff, up_no, seqK_lst, seqK_tup, seqD_lst, seqD_tup, ↓ok_err, ↓go_er, ↓go_never, ↓ok_mkS, ↓ok_mkS0, ↓ok_prop, List.dropLast_cons₂, List.dropLast_nil, fLen, fMin2, fMax2]
  refine ⟨?_, ?_⟩
  · refine decide_eq_true ?_
    split <;> split <;> omega
  refine for_rule I (fun _ _ _ => rfl) ?_ ?_ _ _ ((hI _ _).mpr ⟨_, _, rfl, fun d hd => ?_⟩)
  · intro s hs
    obtain ⟨x, m', rfl, _⟩ := (hI _ _).mp hs
    simp (maxSteps := 2000000) only [↓go_seq, ↓go_next, ↓go_cont, ↓go_break, ↓go_retN, ↓go_ret, ↓go_if, ↓go_drop, ↓go_asg, ↓to_V, ↓to_tup, ↓to_cons, ↓to_nil, ↓ok_c, ↓ok_dv, ↓ok_op, ↓ok_un, ↓ok_nil, ↓ok_cons, ↓ok_tup, ↓ok_lst, ↓ok_tru, ↓ok_test, ↓ok_notB, ↓ok_andB, ↓ok_orB, ↓ok_ifE, ↓ok_notV, ↓ok_fn, ↓ok_cb, ↓ok_cm, ↓ok_var, ↓ok_slot, look_slot, look_dv, lookDv_int, lookDv_str, lookDv_bl, lookDv_non, lookDv_tup, lookDv_lst, lookDv_scr, lookDv_ty, lookDv_cls, ↓ok_lstN, push_def, ↓go_asgN, ↓to_N0, ↓ok_settle, ↓ok_store, ↓ok_opN, ↓ok_cn, ↓ok_mut, ↓go_setIx, list_slot, put_slot, ↓ok_fld, ↓go_setF, ↓ok_mt, ↓ok_mk, ↓go_for, ↓ok_rng1, ↓ok_rng2, ↓ok_enum, ↓ok_zip, ↓ok_no, ↓ok_sl, ↓ok_ite, ↓go_ite, ↓ok_ok, ↓ok_stuck, ↓go_stuck, startL, List.map_cons, List.map_nil, List.length_cons, List.length_nil, List.replicate, List.append_nil, List.nil_append, List.cons_append, List.getElem?_cons_zero, List.getElem?_cons_succ, List.set_cons_zero, List.set_cons_succ, Option.bind_some, lookAll, List.getElem?_nil, Nat.zero_add, Nat.reduceAdd, Nat.reduceSub, Nat.reduceLT, true_and, and_true, List.dropLast_singleton, List.length_singleton, if_true, if_false, Bool.not_true, Bool.not_false, Option.some.injEq, exists_eq_left', exists_eq_left, reduceCtorEq, Bool.false_eq_true, ite_true, ite_false, Option.isSome_some, ixL, ixT, ixS, at0, at1, at2, cmpI_int, add_int, sub_int, int_int, neg_int, is_non, Dv.int.injEq, Dv.bl.injEq, Dv.ref.injEq, Dv.tup.injEq, Dv.lst.injEq, Ob.lst.injEq, Ob.ins.injEq, decide_eq_true_eq, Prod.mk.injEq, and_assoc, exists_and_left, List.cons.injEq, ix30, ix31, ix32, szOk_le, Nat.reduceLeDiff, p59, p30, p6, p12, p18, ↓ok_src, ↓src_lst, ↓src_tup, ↓src_str, ↓src_scr, ↓ok_prt, ↓ok_lcN, ↓ok_sortSet, ↓ok_sortK0, ↓to_Ng, ↓go_par, ↓ok_dmNil, ↓ok_dmV, ↓ok_dmN, ↓to_stIs0, ↓to_stIs, ↓to_stIv, ↓to_stIn, ↓ok_andV, ↓ok_orV, tru_bl, tru_lst, ↓ok_chain, wipe0, wipe1, unwipe0, unwipe1, noOwn0, noOwn1, unown_no, unown_val, ↓ok_yes, List.getD_cons_zero, List.getD_cons_succ, List.getD_nil, Bool.true_and, Bool.and_true, incr, decide_true, Nat.zero_le, Nat.le_refl, eq_int, ne_int, nn_non, nn_int, nn_str, nn_bl, nn_tup, nn_lst, nn_ref, x_tt, x_tf, x_ft, x_ff, up_no, seqK_lst, seqK_tup, seqD_lst, seqD_tup, ↓ok_err, ↓go_er, ↓go_never, ↓ok_mkS, ↓ok_mkS0, ↓ok_prop, List.dropLast_cons₂, List.dropLast_nil]
  · intro d l s hs
    obtain ⟨x, m', rfl, h1⟩ := (hI _ _).mp hs
    obtain ⟨i, rfl, hi⟩ := h1 d (List.mem_cons_self ..)
    simp (maxSteps := 2000000) only [↓go_seq, ↓go_next, ↓go_cont, ↓go_break, ↓go_retN, ↓go_ret, ↓go_if, ↓go_drop, ↓go_asg, ↓to_V, ↓to_tup, ↓to_cons, ↓to_nil, ↓ok_c, ↓ok_dv, ↓ok_op, ↓ok_un, ↓ok_nil, ↓ok_cons, ↓ok_tup, ↓ok_lst, ↓ok_tru, ↓ok_test, ↓ok_notB, ↓ok_andB, ↓ok_orB, ↓ok_ifE, ↓ok_notV, ↓ok_fn, ↓ok_cb, ↓ok_cm, ↓ok_var, ↓ok_slot, look_slot, look_dv, lookDv_int, lookDv_str, lookDv_bl, lookDv_non, lookDv_tup, lookDv_lst, lookDv_scr, lookDv_ty, lookDv_cls, ↓ok_lstN, push_def, ↓go_asgN, ↓to_N0, ↓ok_settle, ↓ok_store, ↓ok_opN, ↓ok_cn, ↓ok_mut, ↓go_setIx, list_slot, put_slot, ↓ok_fld, ↓go_setF, ↓ok_mt, ↓ok_mk, ↓go_for, ↓ok_rng1, ↓ok_rng2, ↓ok_enum, ↓ok_zip, ↓ok_no, ↓ok_sl, ↓ok_ite, ↓go_ite, ↓ok_ok, ↓ok_stuck, ↓go_stuck, startL, List.map_cons, List.map_nil, List.length_cons, List.length_nil, List.replicate, List.append_nil, List.nil_append, List.cons_append, List.getElem?_cons_zero, List.getElem?_cons_succ, List.set_cons_zero, List.set_cons_succ, Option.bind_some, lookAll, List.getElem?_nil, Nat.zero_add, Nat.reduceAdd, Nat.reduceSub, Nat.reduceLT, true_and, and_true, List.dropLast_singleton, List.length_singleton, if_true, if_false, Bool.not_true, Bool.not_false, Option.some.injEq, exists_eq_left', exists_eq_left, reduceCtorEq, Bool.false_eq_true, ite_true, ite_false, Option.isSome_some, ixL, ixT, ixS, at0, at1, at2, cmpI_int, add_int, sub_int, int_int, neg_int, is_non, Dv.int.injEq, Dv.bl.injEq, Dv.ref.injEq, Dv.tup.injEq, Dv.lst.injEq, Ob.lst.injEq, Ob.ins.injEq, decide_eq_true_eq, Prod.mk.injEq, and_assoc, exists_and_left, List.cons.injEq, ix30, ix31, ix32, szOk_le, Nat.reduceLeDiff, p59, p30, p6, p12, p18, ↓ok_src, ↓src_lst, ↓src_tup, ↓src_str, ↓src_scr, ↓ok_prt, ↓ok_lcN, ↓ok_sortSet, ↓ok_sortK0, ↓to_Ng, ↓go_par, ↓ok_dmNil, ↓ok_dmV, ↓ok_dmN, ↓to_stIs0, ↓to_stIs, ↓to_stIv, ↓to_stIn, ↓ok_andV, ↓ok_orV, tru_bl, tru_lst, ↓ok_chain, wipe0, wipe1, unwipe0, unwipe1, noOwn0, noOwn1, unown_no, unown_val, ↓ok_yes, List.getD_cons_zero, List.getD_cons_succ, List.getD_nil, Bool.true_and, Bool.and_true, incr, decide_true, Nat.zero_le, Nat.le_refl, eq_int, ne_int, nn_non, nn_int, nn_str, nn_bl, nn_tup, nn_lst, nn_ref, x_tt, x_tf, x_ft, x_ff, up_no, seqK_lst, seqK_tup, seqD_lst, seqD_tup, ↓ok_err, ↓go_er, ↓go_never, ↓ok_mkS, ↓ok_mkS0, ↓ok_prop, List.dropLast_cons₂, List.dropLast_nil]
    refine bag_t hi fun o hb => ?_
    refine right_t (k := 2 ^ 20 - 120) hb fun m'' => ?_
    simp (maxSteps := 2000000) only [↓go_seq, ↓go_next, ↓go_cont, ↓go_break, ↓go_retN, ↓go_ret, ↓go_if, ↓go_drop, ↓go_asg, ↓to_V, ↓to_tup, ↓to_cons, ↓to_nil, ↓ok_c, ↓ok_dv, ↓ok_op, ↓ok_un, ↓ok_nil, ↓ok_cons, ↓ok_tup, ↓ok_lst, ↓ok_tru, ↓ok_test, ↓ok_notB, ↓ok_andB, ↓ok_orB, ↓ok_ifE, ↓ok_notV, ↓ok_fn, ↓ok_cb, ↓ok_cm, ↓ok_var, ↓ok_slot, look_slot, look_dv, lookDv_int, lookDv_str, lookDv_bl, lookDv_non, lookDv_tup, lookDv_lst, lookDv_scr, lookDv_ty, lookDv_cls, ↓ok_lstN, push_def, ↓go_asgN, ↓to_N0, ↓ok_settle, ↓ok_store, ↓ok_opN, ↓ok_cn, ↓ok_mut, ↓go_setIx, list_slot, put_slot, ↓ok_fld, ↓go_setF, ↓ok_mt, ↓ok_mk, ↓go_for, ↓ok_rng1, ↓ok_rng2, ↓ok_enum, ↓ok_zip, ↓ok_no, ↓ok_sl, ↓ok_ite, ↓go_ite, ↓ok_ok, ↓ok_stuck, ↓go_stuck, startL, List.map_cons, List.map_nil, List.length_cons, List.length_nil, List.replicate, List.append_nil, List.nil_append, List.cons_append, List.getElem?_cons_zero, List.getElem?_cons_succ, List.set_cons_zero, List.set_cons_succ, Option.bind_some, lookAll, List.getElem?_nil, Nat.zero_add, Nat.reduceAdd, Nat.reduceSub, Nat.reduceLT, true_and, and_true, List.dropLast_singleton, List.length_singleton, if_true, if_false, Bool.not_true, Bool.not_false, Option.some.injEq, exists_eq_left', exists_eq_left, reduceCtorEq, Bool.false_eq_true, ite_true, ite_false, Option.isSome_some, ixL, ixT, ixS, at0, at1, at2, cmpI_int, add_int, sub_int, int_int, neg_int, is_non, Dv.int.injEq, Dv.bl.injEq, Dv.ref.injEq, Dv.tup.injEq, Dv.lst.injEq, Ob.lst.injEq, Ob.ins.injEq, decide_eq_true_eq, Prod.mk.injEq, and_assoc, exists_and_left, List.cons.injEq, ix30, ix31, ix32, szOk_le, Nat.reduceLeDiff, p59, p30, p6, p12, p18, ↓ok_src, ↓src_lst, ↓src_tup, ↓src_str, ↓src_scr, ↓ok_prt, ↓ok_lcN, ↓ok_sortSet, ↓ok_sortK0, ↓to_Ng, ↓go_par, ↓ok_dmNil, ↓ok_dmV, ↓ok_dmN, ↓to_stIs0, ↓to_stIs, ↓to_stIv, ↓to_stIn, ↓ok_andV, ↓ok_orV, tru_bl, tru_lst, ↓ok_chain, wipe0, wipe1, unwipe0, unwipe1, noOwn0, noOwn1, unown_no, unown_val, ↓ok_yes, List.getD_cons_zero, List.getD_cons_succ, List.getD_nil, Bool.true_and, Bool.and_true, incr, decide_true, Nat.zero_le, Nat.le_refl, eq_int, ne_int, nn_non, nn_int, nn_str, nn_bl, nn_tup, nn_lst, nn_ref, x_tt, x_tf, x_ft, x_ff, up_no, seqK_lst, seqK_tup, seqD_lst, seqD_tup, ↓ok_err, ↓go_er, ↓go_never, ↓ok_mkS, ↓ok_mkS0, ↓ok_prop, List.dropLast_cons₂, List.dropLast_nil]
    exact (hI _ _).mpr ⟨_, _, rfl, fun d hd => h1 d (List.mem_cons_of_mem _ hd)⟩
  · unfold rngItems at hd
    obtain ⟨i, h1, rfl⟩ := List.mem_map.mp hd
    have h1 := List.mem_range.mp h1
    refine ⟨i, by rw [Int.zero_add], ?_⟩
    revert h1
    split <;> split <;> omega
end DD

namespace DD
open PySem L2 ClX
open PyProof.Rows hiding St
abbrev top (i : Nat) : Stmt := PySem.Challenge.pw_untilrows_k99_errors_made.main.body.getD i (.Pass ⟨0, 0, 0, 0⟩)
abbrev s__law_take : Stmt := (top 22)
abbrev s__law_of : Stmt := (top 24)
abbrev s__law_wide : Stmt := (top 23)
abbrev s__law_day : Stmt := (top 25)
abbrev s__law_ends : Stmt := (top 27)
abbrev s_Unordered_init : Stmt := (inClass (top 4) 0)
abbrev s_BadLine_init : Stmt := (inClass (top 6) 0)
abbrev s_TooMany_init : Stmt := (inClass (top 7) 0)
abbrev s_TooFar_init : Stmt := (inClass (top 8) 0)
abbrev s_NoDay_init : Stmt := (inClass (top 9) 0)
abbrev s_OtherEnds_init : Stmt := (inClass (top 10) 0)
abbrev s_NotAllowed_init : Stmt := (inClass (top 11) 0)
abbrev s_Unknown_init : Stmt := (inClass (top 12) 0)
abbrev s_Twice_init : Stmt := (inClass (top 13) 0)
abbrev s_BadTurns_init : Stmt := (inClass (top 18) 0)
abbrev s__law_kinds : Stmt := (top 28)
abbrev s__law_is_own : Stmt := (top 29)
abbrev s__law_value : Stmt := (top 26)
abbrev s_EmptyRow_init : Stmt := (inClass (top 2) 0)
abbrev s_EmptyStretch_init : Stmt := (inClass (top 3) 0)
abbrev s_Clash_init : Stmt := (inClass (top 5) 0)
abbrev s_TwoRows_init : Stmt := (inClass (top 14) 0)
abbrev s_Refused_init : Stmt := (inClass (top 19) 0)
abbrev s__law_pairs_right : Stmt := (top 30)
abbrev s__law_right : Stmt := (top 31)
abbrev s__law_bag : Stmt := (top 21)
abbrev s_law : Stmt := (top 32)
structure Txt (K : PySem.W.Frag) (mg : Str → Option Value) : Prop where
  free : Free mg
  fld : ∀ base, FldOk ⟨K, mg, base⟩ (ctOf flds)
  isT : ∀ base, IsTab ⟨K, mg, base⟩ (isTbl classes)
  c_Unordered : mg "Unordered" = some (.ref (He.ga K "Unordered"))
  c_BadLine : mg "BadLine" = some (.ref (He.ga K "BadLine"))
  c_TooMany : mg "TooMany" = some (.ref (He.ga K "TooMany"))
  c_TooFar : mg "TooFar" = some (.ref (He.ga K "TooFar"))
  c_NoDay : mg "NoDay" = some (.ref (He.ga K "NoDay"))
  c_OtherEnds : mg "OtherEnds" = some (.ref (He.ga K "OtherEnds"))
  c_NotAllowed : mg "NotAllowed" = some (.ref (He.ga K "NotAllowed"))
  c_Unknown : mg "Unknown" = some (.ref (He.ga K "Unknown"))
  c_Twice : mg "Twice" = some (.ref (He.ga K "Twice"))
  c_BadTurns : mg "BadTurns" = some (.ref (He.ga K "BadTurns"))
  c_RowsError : mg "RowsError" = some (.ref (He.ga K "RowsError"))
  c_EmptyRow : mg "EmptyRow" = some (.ref (He.ga K "EmptyRow"))
  c_EmptyStretch : mg "EmptyStretch" = some (.ref (He.ga K "EmptyStretch"))
  c_Clash : mg "Clash" = some (.ref (He.ga K "Clash"))
  c_TwoRows : mg "TwoRows" = some (.ref (He.ga K "TwoRows"))
  c_NothingWrong : mg "NothingWrong" = some (.ref (He.ga K "NothingWrong"))
  c_NoScene : mg "NoScene" = some (.ref (He.ga K "NoScene"))
  c_HasHeads : mg "HasHeads" = some (.ref (He.ga K "HasHeads"))
  c_Refused : mg "Refused" = some (.ref (He.ga K "Refused"))
  x_NothingWrong : MkX0 K (He.ga K "NothingWrong")
  x_NoScene : MkX0 K (He.ga K "NoScene")
  x_HasHeads : MkX0 K (He.ga K "HasHeads")
  x_RowsError : MkX0 K (He.ga K "RowsError")
  xfld : ∀ base, XOk ⟨K, mg, base⟩ (ctOf xflds)
  isX : ∀ base, IsTabX ⟨K, mg, base⟩ (isXTbl xclasses xups)
  g__law_take : mg "_law_take" = some (.ref (He.ga K "_law_take"))
  d__law_take : ∃ fd, FunD K "_law_take" "_law_take" (defArgs s__law_take) (defBody s__law_take) (defScope s__law_take) [] [] (He.ga K "_law_take") fd
  g__law_of : mg "_law_of" = some (.ref (He.ga K "_law_of"))
  d__law_of : ∃ fd, FunD K "_law_of" "_law_of" (defArgs s__law_of) (defBody s__law_of) (defScope s__law_of) [] [] (He.ga K "_law_of") fd
  g__law_wide : mg "_law_wide" = some (.ref (He.ga K "_law_wide"))
  d__law_wide : ∃ fd, FunD K "_law_wide" "_law_wide" (defArgs s__law_wide) (defBody s__law_wide) (defScope s__law_wide) [] [] (He.ga K "_law_wide") fd
  g__law_day : mg "_law_day" = some (.ref (He.ga K "_law_day"))
  d__law_day : ∃ fd, FunD K "_law_day" "_law_day" (defArgs s__law_day) (defBody s__law_day) (defScope s__law_day) [] [] (He.ga K "_law_day") fd
  g__law_ends : mg "_law_ends" = some (.ref (He.ga K "_law_ends"))
  d__law_ends : ∃ fd, FunD K "_law_ends" "_law_ends" (defArgs s__law_ends) (defBody s__law_ends) (defScope s__law_ends) [] [] (He.ga K "_law_ends") fd
  m_Unordered_init : MkXC K (He.ga K "Unordered") (He.ma K (He.ga K "Unordered") "__init__")
  d_Unordered_init : ∃ fd, FunD K "__init__" "Unordered.__init__" (defArgs s_Unordered_init) (defBody s_Unordered_init) (defScope s_Unordered_init) [] [] (He.ma K (He.ga K "Unordered") "__init__") fd
  m_BadLine_init : MkXC K (He.ga K "BadLine") (He.ma K (He.ga K "BadLine") "__init__")
  d_BadLine_init : ∃ fd, FunD K "__init__" "BadLine.__init__" (defArgs s_BadLine_init) (defBody s_BadLine_init) (defScope s_BadLine_init) [] [] (He.ma K (He.ga K "BadLine") "__init__") fd
  m_TooMany_init : MkXC K (He.ga K "TooMany") (He.ma K (He.ga K "TooMany") "__init__")
  d_TooMany_init : ∃ fd, FunD K "__init__" "TooMany.__init__" (defArgs s_TooMany_init) (defBody s_TooMany_init) (defScope s_TooMany_init) [] [] (He.ma K (He.ga K "TooMany") "__init__") fd
  m_TooFar_init : MkXC K (He.ga K "TooFar") (He.ma K (He.ga K "TooFar") "__init__")
  d_TooFar_init : ∃ fd, FunD K "__init__" "TooFar.__init__" (defArgs s_TooFar_init) (defBody s_TooFar_init) (defScope s_TooFar_init) [] [] (He.ma K (He.ga K "TooFar") "__init__") fd
  m_NoDay_init : MkXC K (He.ga K "NoDay") (He.ma K (He.ga K "NoDay") "__init__")
  d_NoDay_init : ∃ fd, FunD K "__init__" "NoDay.__init__" (defArgs s_NoDay_init) (defBody s_NoDay_init) (defScope s_NoDay_init) [] [] (He.ma K (He.ga K "NoDay") "__init__") fd
  m_OtherEnds_init : MkXC K (He.ga K "OtherEnds") (He.ma K (He.ga K "OtherEnds") "__init__")
  d_OtherEnds_init : ∃ fd, FunD K "__init__" "OtherEnds.__init__" (defArgs s_OtherEnds_init) (defBody s_OtherEnds_init) (defScope s_OtherEnds_init) [] [] (He.ma K (He.ga K "OtherEnds") "__init__") fd
  m_NotAllowed_init : MkXC K (He.ga K "NotAllowed") (He.ma K (He.ga K "NotAllowed") "__init__")
  d_NotAllowed_init : ∃ fd, FunD K "__init__" "NotAllowed.__init__" (defArgs s_NotAllowed_init) (defBody s_NotAllowed_init) (defScope s_NotAllowed_init) [] [] (He.ma K (He.ga K "NotAllowed") "__init__") fd
  m_Unknown_init : MkXC K (He.ga K "Unknown") (He.ma K (He.ga K "Unknown") "__init__")
  d_Unknown_init : ∃ fd, FunD K "__init__" "Unknown.__init__" (defArgs s_Unknown_init) (defBody s_Unknown_init) (defScope s_Unknown_init) [] [] (He.ma K (He.ga K "Unknown") "__init__") fd
  m_Twice_init : MkXC K (He.ga K "Twice") (He.ma K (He.ga K "Twice") "__init__")
  d_Twice_init : ∃ fd, FunD K "__init__" "Twice.__init__" (defArgs s_Twice_init) (defBody s_Twice_init) (defScope s_Twice_init) [] [] (He.ma K (He.ga K "Twice") "__init__") fd
  m_BadTurns_init : MkXC K (He.ga K "BadTurns") (He.ma K (He.ga K "BadTurns") "__init__")
  d_BadTurns_init : ∃ fd, FunD K "__init__" "BadTurns.__init__" (defArgs s_BadTurns_init) (defBody s_BadTurns_init) (defScope s_BadTurns_init) [] [] (He.ma K (He.ga K "BadTurns") "__init__") fd
  g__law_kinds : mg "_law_kinds" = some (.ref (He.ga K "_law_kinds"))
  d__law_kinds : ∃ fd, FunD K "_law_kinds" "_law_kinds" (defArgs s__law_kinds) (defBody s__law_kinds) (defScope s__law_kinds) [] [] (He.ga K "_law_kinds") fd
  g__law_is_own : mg "_law_is_own" = some (.ref (He.ga K "_law_is_own"))
  d__law_is_own : ∃ fd, FunD K "_law_is_own" "_law_is_own" (defArgs s__law_is_own) (defBody s__law_is_own) (defScope s__law_is_own) [] [] (He.ga K "_law_is_own") fd
  g__law_value : mg "_law_value" = some (.ref (He.ga K "_law_value"))
  d__law_value : ∃ fd, FunD K "_law_value" "_law_value" (defArgs s__law_value) (defBody s__law_value) (defScope s__law_value) [] [] (He.ga K "_law_value") fd
  m_EmptyRow_init : MkXC K (He.ga K "EmptyRow") (He.ma K (He.ga K "EmptyRow") "__init__")
  d_EmptyRow_init : ∃ fd, FunD K "__init__" "EmptyRow.__init__" (defArgs s_EmptyRow_init) (defBody s_EmptyRow_init) (defScope s_EmptyRow_init) [] [] (He.ma K (He.ga K "EmptyRow") "__init__") fd
  m_EmptyStretch_init : MkXC K (He.ga K "EmptyStretch") (He.ma K (He.ga K "EmptyStretch") "__init__")
  d_EmptyStretch_init : ∃ fd, FunD K "__init__" "EmptyStretch.__init__" (defArgs s_EmptyStretch_init) (defBody s_EmptyStretch_init) (defScope s_EmptyStretch_init) [] [] (He.ma K (He.ga K "EmptyStretch") "__init__") fd
  m_Clash_init : MkXC K (He.ga K "Clash") (He.ma K (He.ga K "Clash") "__init__")
  d_Clash_init : ∃ fd, FunD K "__init__" "Clash.__init__" (defArgs s_Clash_init) (defBody s_Clash_init) (defScope s_Clash_init) [] [] (He.ma K (He.ga K "Clash") "__init__") fd
  m_TwoRows_init : MkXC K (He.ga K "TwoRows") (He.ma K (He.ga K "TwoRows") "__init__")
  d_TwoRows_init : ∃ fd, FunD K "__init__" "TwoRows.__init__" (defArgs s_TwoRows_init) (defBody s_TwoRows_init) (defScope s_TwoRows_init) [] [] (He.ma K (He.ga K "TwoRows") "__init__") fd
  m_Refused_init : MkXC K (He.ga K "Refused") (He.ma K (He.ga K "Refused") "__init__")
  d_Refused_init : ∃ fd, FunD K "__init__" "Refused.__init__" (defArgs s_Refused_init) (defBody s_Refused_init) (defScope s_Refused_init) [] [] (He.ma K (He.ga K "Refused") "__init__") fd
  g__law_pairs_right : mg "_law_pairs_right" = some (.ref (He.ga K "_law_pairs_right"))
  d__law_pairs_right : ∃ fd, FunD K "_law_pairs_right" "_law_pairs_right" (defArgs s__law_pairs_right) (defBody s__law_pairs_right) (defScope s__law_pairs_right) [] [] (He.ga K "_law_pairs_right") fd
  g__law_right : mg "_law_right" = some (.ref (He.ga K "_law_right"))
  d__law_right : ∃ fd, FunD K "_law_right" "_law_right" (defArgs s__law_right) (defBody s__law_right) (defScope s__law_right) [] [] (He.ga K "_law_right") fd
  g__law_bag : mg "_law_bag" = some (.ref (He.ga K "_law_bag"))
  d__law_bag : ∃ fd, FunD K "_law_bag" "_law_bag" (defArgs s__law_bag) (defBody s__law_bag) (defScope s__law_bag) [] [] (He.ga K "_law_bag") fd
  g_law : mg "law" = some (.ref (He.ga K "law"))
  d_law : ∃ fd, FunD K "law" "law" (defArgs s_law) (defBody s_law) (defScope s_law) [] [] (He.ga K "law") fd
section
variable {P : Program} {w : World} {K : PySem.W.Frag} {mg : Str → Option Value} {base : Heap}
theorem sc__law_take : FnScope ["bag", "many", "digit", "mixed"] ["bag", "many"] (defScope s__law_take) := ⟨rfl, rfl, rfl, by decide +kernel, rfl, by decide +kernel, by decide +kernel⟩
theorem ok__law_take (T : Txt K mg) : Cal P w K mg base "_law_take" 1 c__law_take := by
  obtain ⟨fd, F⟩ := T.d__law_take
  refine cal_mk T.g__law_take F.kp (fd_ok (k := 0) F sc__law_take fun cdv oc od osl A outer s H E hcode hci hlk hr => ?_) (F.bindsN fun _ _ _ _ _ _ us hl => match us, hl with | [_, _], _ => rfl)
  exact ⟨_, (db_cons (ds_if (dt_cmp op_gt pure_cmpI (dr_of (de_ix (dr_var 0) (dr_of de_int) fun _ _ => rfl)) (dr_of de_int) (nomark _)) (db_cons (ds_asg (de_op op_mod pure_mod (dr_of (e_int T.free (dar_cons (dr_of (de_ix (dr_var 0) (dr_of de_int) fun _ _ => rfl)) dar_nil))) (dr_var 1)) (dg_name sc__law_take.nd (i := 2) rfl (by first | exact Or.inl rfl | exact Or.inr rfl)))
    (db_cons (ds_setIx (de_op op_fdivW pure_div (dr_of (de_ix (dr_var 0) (dr_of de_int) fun _ _ => rfl)) (dr_var 1)) (dr_var 0) de_int)
    (db_one (ds_ret (de_var 2))))) db_nil)
    (db_cons (ds_setIx (de_op op_addA pure_add (dr_of (de_ix (dr_var 0) (dr_of de_int) fun _ _ => rfl)) (dr_of de_int)) (dr_var 0) de_int)
    (db_cons (ds_asg (de_op op_mod pure_mod (dr_of (e_int T.free (dar_cons (dr_of (de_op op_powW pure_pow (dr_of (de_op op_addA pure_add (dr_of (de_ix (dr_var 0) (dr_of de_int) fun _ _ => rfl)) (dr_of (de_op op_mulA pure_mul (dr_of de_int) (dr_of (de_ix (dr_var 0) (dr_of de_int) fun _ _ => rfl)))))) (dr_of de_int))) dar_nil))) (dr_of de_int)) (dg_name sc__law_take.nd (i := 3) rfl (by first | exact Or.inl rfl | exact Or.inr rfl)))
    (db_cons (ds_asg (de_op op_mod pure_mod (dr_of (e_int T.free (dar_cons (dr_of (de_op op_powW pure_pow (dr_of (de_op op_addA pure_add (dr_var 3) (dr_of (de_op op_mulA pure_mul (dr_of de_int) (dr_of (de_ix (dr_var 0) (dr_of de_int) fun _ _ => rfl)))))) (dr_of de_int))) dar_nil))) (dr_of de_int)) (dg_name sc__law_take.nd (i := 3) rfl (by first | exact Or.inl rfl | exact Or.inr rfl)))
    (db_one (ds_ret (de_op op_mod pure_mod (dr_of (e_int T.free (dar_cons (dr_of (de_op op_fdivW pure_div (dr_var 3) (dr_of de_int))) dar_nil))) (dr_var 1))))))))⟩
theorem sc__law_of : FnScope ["bag", "some"] ["bag", "some"] (defScope s__law_of) := ⟨rfl, rfl, rfl, by decide +kernel, rfl, by decide +kernel, by decide +kernel⟩
theorem ok__law_of (T : Txt K mg) : Cal P w K mg base "_law_of" 2 c__law_of := by
  obtain ⟨fd, F⟩ := T.d__law_of
  refine cal_mk T.g__law_of F.kp (fd_ok (k := 1) F sc__law_of fun cdv oc od osl A outer s H E hcode hci hlk hr => ?_) (F.bindsN fun _ _ _ _ _ _ us hl => match us, hl with | [_, _], _ => rfl)
  exact ⟨_, (db_one (ds_ret (de_ix (dr_var 1) (dr_of (e_call (ok__law_take T) hr (da_cons (de_var 0) (da_cons (e_len0 T.free (dar_cons (dr_var 1) dar_nil)) da_nil)))) fun _ _ => rfl)))⟩
theorem sc__law_wide : FnScope ["bag", "many", "number", "turn"] ["bag", "many"] (defScope s__law_wide) := ⟨rfl, rfl, rfl, by decide +kernel, rfl, by decide +kernel, by decide +kernel⟩
theorem ok__law_wide (T : Txt K mg) : Cal P w K mg base "_law_wide" 2 c__law_wide := by
  obtain ⟨fd, F⟩ := T.d__law_wide
  refine cal_mk T.g__law_wide F.kp (fd_ok (k := 1) F sc__law_wide fun cdv oc od osl A outer s H E hcode hci hlk hr => ?_) (F.bindsN fun _ _ _ _ _ _ us hl => match us, hl with | [_, _], _ => rfl)
  exact ⟨_, (db_cons (ds_if (dt_cmp op_gt pure_cmpI (dr_of (de_ix (dr_var 0) (dr_of de_int) fun _ _ => rfl)) (dr_of de_int) (nomark _)) (db_one (ds_ret (e_call (ok__law_take T) hr (da_cons (de_var 0) (da_cons (de_var 1) da_nil))))) db_nil)
    (db_cons (ds_asg de_int (dg_name sc__law_wide.nd (i := 2) rfl (by first | exact Or.inl rfl | exact Or.inr rfl)))
    (db_cons (ds_for PassesOwn.never rfl (i_range1 T.free (da_cons de_int da_nil)) (dg_name sc__law_wide.nd (i := 3) rfl (by first | exact Or.inl rfl | exact Or.inr rfl)) (db_one (ds_asg (de_op op_addA pure_add (dr_of (de_op op_mulA pure_mul (dr_var 2) (dr_of de_int))) (dr_of (e_call (ok__law_take T) hr (da_cons (de_var 0) (da_cons de_int da_nil))))) (dg_name sc__law_wide.nd (i := 2) rfl (by first | exact Or.inl rfl | exact Or.inr rfl)))))
    (db_one (ds_ret (de_op op_mod pure_mod (dr_of (e_int T.free (dar_cons (dr_var 2) dar_nil))) (dr_var 1)))))))⟩
theorem sc__law_day : FnScope ["bag", "size"] ["bag"] (defScope s__law_day) := ⟨rfl, rfl, rfl, by decide +kernel, rfl, by decide +kernel, by decide +kernel⟩
theorem ok__law_day (T : Txt K mg) : Cal P w K mg base "_law_day" 3 c__law_day := by
  obtain ⟨fd, F⟩ := T.d__law_day
  refine cal_mk T.g__law_day F.kp (fd_ok (k := 2) F sc__law_day fun cdv oc od osl A outer s H E hcode hci hlk hr => ?_) (F.bindsN fun _ _ _ _ _ _ us hl => match us, hl with | [_], _ => rfl)
  exact ⟨_, (db_cons (ds_asg (e_call (ok__law_of T) hr (da_cons (de_var 0) (da_cons (de_lst (da_cons de_int (da_cons de_int (da_cons de_int (da_cons (de_op op_powW pure_pow (dr_of de_int) (dr_of de_int)) (da_cons (de_op op_powW pure_pow (dr_of de_int) (dr_of de_int)) (da_cons (de_op op_powW pure_pow (dr_of de_int) (dr_of de_int)) da_nil))))))) da_nil))) (dg_name sc__law_day.nd (i := 1) rfl (by first | exact Or.inl rfl | exact Or.inr rfl)))
    (db_one (ds_ret (de_op op_sub pure_sub (dr_of (e_call (ok__law_wide T) hr (da_cons (de_var 0) (da_cons (de_op op_addA pure_add (dr_of (de_op op_mulA pure_mul (dr_of de_int) (dr_var 1))) (dr_of de_int)) da_nil)))) (dr_var 1)))))⟩
theorem sc__law_ends : FnScope ["bag"] ["bag"] (defScope s__law_ends) := ⟨rfl, rfl, rfl, by decide +kernel, rfl, by decide +kernel, by decide +kernel⟩
theorem ok__law_ends (T : Txt K mg) : Cal P w K mg base "_law_ends" 3 c__law_ends := by
  obtain ⟨fd, F⟩ := T.d__law_ends
  refine cal_mk T.g__law_ends F.kp (fd_ok (k := 2) F sc__law_ends fun cdv oc od osl A outer s H E hcode hci hlk hr => ?_) (F.bindsN fun _ _ _ _ _ _ us hl => match us, hl with | [_], _ => rfl)
  exact ⟨_, (db_one (ds_ret (e_call (ok__law_of T) hr (da_cons (de_var 0) (da_cons (de_lst (da_cons de_str (da_cons de_str da_nil))) da_nil)))))⟩
theorem sc_Unordered_init : FnScope ["self", "index"] ["self", "index"] (defScope s_Unordered_init) := ⟨rfl, rfl, rfl, by decide +kernel, rfl, by decide +kernel, by decide +kernel⟩
theorem ok_Unordered_init (T : Txt K mg) : XKCal P w K mg base "Unordered" 1 c_Unordered_init := by
  obtain ⟨fd, F⟩ := T.d_Unordered_init
  refine xkcal_mk T.c_Unordered T.m_Unordered_init (fd_ok (k := 0) F sc_Unordered_init fun cdv oc od osl A outer s H E hcode hci hlk hr => ?_) (F.bindsN fun _ _ _ _ _ _ us hl => match us, hl with | [_, _], _ => rfl)
  exact ⟨_, (db_one (ds_setX (T.xfld _) (de_var 1) (de_var 0)))⟩
theorem sc_BadLine_init : FnScope ["self", "number"] ["self", "number"] (defScope s_BadLine_init) := ⟨rfl, rfl, rfl, by decide +kernel, rfl, by decide +kernel, by decide +kernel⟩
theorem ok_BadLine_init (T : Txt K mg) : XKCal P w K mg base "BadLine" 1 c_BadLine_init := by
  obtain ⟨fd, F⟩ := T.d_BadLine_init
  refine xkcal_mk T.c_BadLine T.m_BadLine_init (fd_ok (k := 0) F sc_BadLine_init fun cdv oc od osl A outer s H E hcode hci hlk hr => ?_) (F.bindsN fun _ _ _ _ _ _ us hl => match us, hl with | [_, _], _ => rfl)
  exact ⟨_, (db_one (ds_setX (T.xfld _) (de_var 1) (de_var 0)))⟩
theorem sc_TooMany_init : FnScope ["self", "most"] ["self", "most"] (defScope s_TooMany_init) := ⟨rfl, rfl, rfl, by decide +kernel, rfl, by decide +kernel, by decide +kernel⟩
theorem ok_TooMany_init (T : Txt K mg) : XKCal P w K mg base "TooMany" 1 c_TooMany_init := by
  obtain ⟨fd, F⟩ := T.d_TooMany_init
  refine xkcal_mk T.c_TooMany T.m_TooMany_init (fd_ok (k := 0) F sc_TooMany_init fun cdv oc od osl A outer s H E hcode hci hlk hr => ?_) (F.bindsN fun _ _ _ _ _ _ us hl => match us, hl with | [_, _], _ => rfl)
  exact ⟨_, (db_one (ds_setX (T.xfld _) (de_var 1) (de_var 0)))⟩
theorem sc_TooFar_init : FnScope ["self", "number"] ["self", "number"] (defScope s_TooFar_init) := ⟨rfl, rfl, rfl, by decide +kernel, rfl, by decide +kernel, by decide +kernel⟩
theorem ok_TooFar_init (T : Txt K mg) : XKCal P w K mg base "TooFar" 1 c_TooFar_init := by
  obtain ⟨fd, F⟩ := T.d_TooFar_init
  refine xkcal_mk T.c_TooFar T.m_TooFar_init (fd_ok (k := 0) F sc_TooFar_init fun cdv oc od osl A outer s H E hcode hci hlk hr => ?_) (F.bindsN fun _ _ _ _ _ _ us hl => match us, hl with | [_, _], _ => rfl)
  exact ⟨_, (db_one (ds_setX (T.xfld _) (de_var 1) (de_var 0)))⟩
theorem sc_NoDay_init : FnScope ["self", "number"] ["self", "number"] (defScope s_NoDay_init) := ⟨rfl, rfl, rfl, by decide +kernel, rfl, by decide +kernel, by decide +kernel⟩
theorem ok_NoDay_init (T : Txt K mg) : XKCal P w K mg base "NoDay" 1 c_NoDay_init := by
  obtain ⟨fd, F⟩ := T.d_NoDay_init
  refine xkcal_mk T.c_NoDay T.m_NoDay_init (fd_ok (k := 0) F sc_NoDay_init fun cdv oc od osl A outer s H E hcode hci hlk hr => ?_) (F.bindsN fun _ _ _ _ _ _ us hl => match us, hl with | [_, _], _ => rfl)
  exact ⟨_, (db_one (ds_setX (T.xfld _) (de_var 1) (de_var 0)))⟩
theorem sc_OtherEnds_init : FnScope ["self", "ends"] ["self", "ends"] (defScope s_OtherEnds_init) := ⟨rfl, rfl, rfl, by decide +kernel, rfl, by decide +kernel, by decide +kernel⟩
theorem ok_OtherEnds_init (T : Txt K mg) : XKCal P w K mg base "OtherEnds" 1 c_OtherEnds_init := by
  obtain ⟨fd, F⟩ := T.d_OtherEnds_init
  refine xkcal_mk T.c_OtherEnds T.m_OtherEnds_init (fd_ok (k := 0) F sc_OtherEnds_init fun cdv oc od osl A outer s H E hcode hci hlk hr => ?_) (F.bindsN fun _ _ _ _ _ _ us hl => match us, hl with | [_, _], _ => rfl)
  exact ⟨_, (db_one (ds_setX (T.xfld _) (de_var 1) (de_var 0)))⟩
theorem sc_NotAllowed_init : FnScope ["self", "word"] ["self", "word"] (defScope s_NotAllowed_init) := ⟨rfl, rfl, rfl, by decide +kernel, rfl, by decide +kernel, by decide +kernel⟩
theorem ok_NotAllowed_init (T : Txt K mg) : XKCal P w K mg base "NotAllowed" 1 c_NotAllowed_init := by
  obtain ⟨fd, F⟩ := T.d_NotAllowed_init
  refine xkcal_mk T.c_NotAllowed T.m_NotAllowed_init (fd_ok (k := 0) F sc_NotAllowed_init fun cdv oc od osl A outer s H E hcode hci hlk hr => ?_) (F.bindsN fun _ _ _ _ _ _ us hl => match us, hl with | [_, _], _ => rfl)
  exact ⟨_, (db_one (ds_setX (T.xfld _) (de_var 1) (de_var 0)))⟩
theorem sc_Unknown_init : FnScope ["self", "word"] ["self", "word"] (defScope s_Unknown_init) := ⟨rfl, rfl, rfl, by decide +kernel, rfl, by decide +kernel, by decide +kernel⟩
theorem ok_Unknown_init (T : Txt K mg) : XKCal P w K mg base "Unknown" 1 c_Unknown_init := by
  obtain ⟨fd, F⟩ := T.d_Unknown_init
  refine xkcal_mk T.c_Unknown T.m_Unknown_init (fd_ok (k := 0) F sc_Unknown_init fun cdv oc od osl A outer s H E hcode hci hlk hr => ?_) (F.bindsN fun _ _ _ _ _ _ us hl => match us, hl with | [_, _], _ => rfl)
  exact ⟨_, (db_one (ds_setX (T.xfld _) (de_var 1) (de_var 0)))⟩
theorem sc_Twice_init : FnScope ["self", "number"] ["self", "number"] (defScope s_Twice_init) := ⟨rfl, rfl, rfl, by decide +kernel, rfl, by decide +kernel, by decide +kernel⟩
theorem ok_Twice_init (T : Txt K mg) : XKCal P w K mg base "Twice" 1 c_Twice_init := by
  obtain ⟨fd, F⟩ := T.d_Twice_init
  refine xkcal_mk T.c_Twice T.m_Twice_init (fd_ok (k := 0) F sc_Twice_init fun cdv oc od osl A outer s H E hcode hci hlk hr => ?_) (F.bindsN fun _ _ _ _ _ _ us hl => match us, hl with | [_, _], _ => rfl)
  exact ⟨_, (db_one (ds_setX (T.xfld _) (de_var 1) (de_var 0)))⟩
theorem sc_BadTurns_init : FnScope ["self", "turns"] ["self", "turns"] (defScope s_BadTurns_init) := ⟨rfl, rfl, rfl, by decide +kernel, rfl, by decide +kernel, by decide +kernel⟩
theorem ok_BadTurns_init (T : Txt K mg) : XKCal P w K mg base "BadTurns" 1 c_BadTurns_init := by
  obtain ⟨fd, F⟩ := T.d_BadTurns_init
  refine xkcal_mk T.c_BadTurns T.m_BadTurns_init (fd_ok (k := 0) F sc_BadTurns_init fun cdv oc od osl A outer s H E hcode hci hlk hr => ?_) (F.bindsN fun _ _ _ _ _ _ us hl => match us, hl with | [_, _], _ => rfl)
  exact ⟨_, (db_one (ds_setX (T.xfld _) (de_var 1) (de_var 0)))⟩
theorem sc__law_kinds : FnScope ["made", "found"] ["made"] (defScope s__law_kinds) := ⟨rfl, rfl, rfl, by decide +kernel, rfl, by decide +kernel, by decide +kernel⟩
theorem ok__law_kinds (T : Txt K mg) : Cal P w K mg base "_law_kinds" 1 c__law_kinds := by
  obtain ⟨fd, F⟩ := T.d__law_kinds
  refine cal_mk T.g__law_kinds F.kp (fd_ok (k := 0) F sc__law_kinds fun cdv oc od osl A outer s H E hcode hci hlk hr => ?_) (F.bindsN fun _ _ _ _ _ _ us hl => match us, hl with | [_], _ => rfl)
  exact ⟨_, (db_cons (ds_asg (de_lst (da_cons (e_isX T.free (T.isX _) (dar_cons (dr_var 0) (dar_cons (dr_of (de_cls rfl T.c_EmptyRow)) dar_nil))) (da_cons (e_isX T.free (T.isX _) (dar_cons (dr_var 0) (dar_cons (dr_of (de_cls rfl T.c_EmptyStretch)) dar_nil))) (da_cons (e_isX T.free (T.isX _) (dar_cons (dr_var 0) (dar_cons (dr_of (de_cls rfl T.c_Unordered)) dar_nil))) da_nil)))) (dg_name sc__law_kinds.nd (i := 1) rfl (by first | exact Or.inl rfl | exact Or.inr rfl)))
    (db_cons (ds_asg (de_op op_addA pure_add (dr_var 1) (dr_of (de_lst (da_cons (e_isX T.free (T.isX _) (dar_cons (dr_var 0) (dar_cons (dr_of (de_cls rfl T.c_Clash)) dar_nil))) (da_cons (e_isX T.free (T.isX _) (dar_cons (dr_var 0) (dar_cons (dr_of (de_cls rfl T.c_BadLine)) dar_nil))) (da_cons (e_isX T.free (T.isX _) (dar_cons (dr_var 0) (dar_cons (dr_of (de_cls rfl T.c_TooMany)) dar_nil))) da_nil)))))) (dg_name sc__law_kinds.nd (i := 1) rfl (by first | exact Or.inl rfl | exact Or.inr rfl)))
    (db_cons (ds_asg (de_op op_addA pure_add (dr_var 1) (dr_of (de_lst (da_cons (e_isX T.free (T.isX _) (dar_cons (dr_var 0) (dar_cons (dr_of (de_cls rfl T.c_TooFar)) dar_nil))) (da_cons (e_isX T.free (T.isX _) (dar_cons (dr_var 0) (dar_cons (dr_of (de_cls rfl T.c_NoDay)) dar_nil))) (da_cons (e_isX T.free (T.isX _) (dar_cons (dr_var 0) (dar_cons (dr_of (de_cls rfl T.c_OtherEnds)) dar_nil))) da_nil)))))) (dg_name sc__law_kinds.nd (i := 1) rfl (by first | exact Or.inl rfl | exact Or.inr rfl)))
    (db_cons (ds_asg (de_op op_addA pure_add (dr_var 1) (dr_of (de_lst (da_cons (e_isX T.free (T.isX _) (dar_cons (dr_var 0) (dar_cons (dr_of (de_cls rfl T.c_NotAllowed)) dar_nil))) (da_cons (e_isX T.free (T.isX _) (dar_cons (dr_var 0) (dar_cons (dr_of (de_cls rfl T.c_Unknown)) dar_nil))) (da_cons (e_isX T.free (T.isX _) (dar_cons (dr_var 0) (dar_cons (dr_of (de_cls rfl T.c_Twice)) dar_nil))) da_nil)))))) (dg_name sc__law_kinds.nd (i := 1) rfl (by first | exact Or.inl rfl | exact Or.inr rfl)))
    (db_cons (ds_asg (de_op op_addA pure_add (dr_var 1) (dr_of (de_lst (da_cons (e_isX T.free (T.isX _) (dar_cons (dr_var 0) (dar_cons (dr_of (de_cls rfl T.c_TwoRows)) dar_nil))) (da_cons (e_isX T.free (T.isX _) (dar_cons (dr_var 0) (dar_cons (dr_of (de_cls rfl T.c_NothingWrong)) dar_nil))) (da_cons (e_isX T.free (T.isX _) (dar_cons (dr_var 0) (dar_cons (dr_of (de_cls rfl T.c_NoScene)) dar_nil))) da_nil)))))) (dg_name sc__law_kinds.nd (i := 1) rfl (by first | exact Or.inl rfl | exact Or.inr rfl)))
    (db_one (ds_ret (de_op op_addA pure_add (dr_var 1) (dr_of (de_lst (da_cons (e_isX T.free (T.isX _) (dar_cons (dr_var 0) (dar_cons (dr_of (de_cls rfl T.c_HasHeads)) dar_nil))) (da_cons (e_isX T.free (T.isX _) (dar_cons (dr_var 0) (dar_cons (dr_of (de_cls rfl T.c_BadTurns)) dar_nil))) (da_cons (e_isX T.free (T.isX _) (dar_cons (dr_var 0) (dar_cons (dr_of (de_cls rfl T.c_Refused)) dar_nil))) da_nil)))))))))))))⟩
theorem sc__law_is_own : FnScope ["made", "at", "k"] ["made", "at"] (defScope s__law_is_own) := ⟨rfl, rfl, rfl, by decide +kernel, rfl, by decide +kernel, by decide +kernel⟩
theorem ok__law_is_own (T : Txt K mg) : Cal P w K mg base "_law_is_own" 2 c__law_is_own := by
  obtain ⟨fd, F⟩ := T.d__law_is_own
  refine cal_mk T.g__law_is_own F.kp (fd_ok (k := 1) F sc__law_is_own fun cdv oc od osl A outer s H E hcode hci hlk hr => ?_) (F.bindsN fun _ _ _ _ _ _ us hl => match us, hl with | [_, _], _ => rfl)
  exact ⟨_, (db_cons (ds_if (DW.dt (dw_or (dt_not (dt_tru (dr_of (e_isX T.free (T.isX _) (dar_cons (dr_var 0) (dar_cons (dr_of (de_cls rfl T.c_RowsError)) dar_nil)))))) (dw_or1 (dt_not (dt_tru (dr_of (e_isX T.free (T.isX _) (dar_cons (dr_var 0) (dar_cons (dr_of (e_tyVE T.free)) dar_nil))))))))) (db_one (ds_ret de_bl)) db_nil)
    (db_one (ds_ret (de_cmp (op_eqD hr.u64) pure_eq (dr_of (e_call (ok__law_kinds T) hr (da_cons (de_var 0) da_nil))) (dr_of (de_settle (dn_lcX (own := [("k", 2)]) rfl sc__law_is_own.nd (i_range1 T.free (da_cons de_int da_nil)) (blkOk_by (show blkC ["made", "at", "k"] (defScope s__law_is_own) _ _ = true from by decide +kernel)) (fun _ => ⟨_, (dg_name sc__law_is_own.nd (i := 2) rfl (by first | exact Or.inl rfl | exact Or.inr rfl))⟩) (fun _ => ⟨_, dts_nil⟩) (fun _ => ⟨_, (de_cmp (op_eqD hr.u64) pure_eq (dr_var 2) (dr_var 1) (nomark _))⟩)))) (nomark _)))))⟩
theorem sc__law_value : FnScope ["bag", "road", "text", "turn"] ["bag"] (defScope s__law_value) := ⟨rfl, rfl, rfl, by decide +kernel, rfl, by decide +kernel, by decide +kernel⟩
theorem ok__law_value (T : Txt K mg) : Cal P w K mg base "_law_value" 3 c__law_value := by
  obtain ⟨fd, F⟩ := T.d__law_value
  refine cal_mk T.g__law_value F.kp (fd_ok (k := 2) F sc__law_value fun cdv oc od osl A outer s H E hcode hci hlk hr => ?_) (F.bindsN fun _ _ _ _ _ _ us hl => match us, hl with | [_], _ => rfl)
  exact ⟨_, (db_cons (ds_asg (e_call (ok__law_take T) hr (da_cons (de_var 0) (da_cons de_int da_nil))) (dg_name sc__law_value.nd (i := 1) rfl (by first | exact Or.inl rfl | exact Or.inr rfl)))
    (db_cons (ds_if (dt_cmp (op_eqD hr.u64) pure_eq (dr_var 1) (dr_of de_int) (nomark _)) (db_one (ds_ret (de_op op_sub pure_sub (dr_of (e_call (ok__law_take T) hr (da_cons (de_var 0) (da_cons de_int da_nil)))) (dr_of de_int)))) db_nil)
    (db_cons (ds_if (dt_cmp (op_eqD hr.u64) pure_eq (dr_var 1) (dr_of de_int) (nomark _)) (db_one (ds_ret (de_op op_sub pure_sub (dr_of (e_call (ok__law_wide T) hr (da_cons (de_var 0) (da_cons (de_op op_mulA pure_mul (dr_of de_int) (dr_of (de_op op_powW pure_pow (dr_of de_int) (dr_of de_int)))) da_nil)))) (dr_of (de_op op_powW pure_pow (dr_of de_int) (dr_of de_int)))))) db_nil)
    (db_cons (ds_asg de_str (dg_name sc__law_value.nd (i := 2) rfl (by first | exact Or.inl rfl | exact Or.inr rfl)))
    (db_cons (ds_for PassesOwn.never rfl (i_range1 T.free (da_cons (e_call (ok__law_of T) hr (da_cons (de_var 0) (da_cons (de_lst (da_cons de_int (da_cons de_int (da_cons de_int (da_cons de_int da_nil))))) da_nil))) da_nil)) (dg_name sc__law_value.nd (i := 3) rfl (by first | exact Or.inl rfl | exact Or.inr rfl)) (db_one (ds_asg (de_op op_addA pure_add (dr_var 2) (dr_of (e_call (ok__law_of T) hr (da_cons (de_var 0) (da_cons de_str da_nil))))) (dg_name sc__law_value.nd (i := 2) rfl (by first | exact Or.inl rfl | exact Or.inr rfl)))))
    (db_one (ds_ret (de_var 2))))))))⟩
theorem sc_EmptyRow_init : FnScope ["self", "first", "end"] ["self", "first", "end"] (defScope s_EmptyRow_init) := ⟨rfl, rfl, rfl, by decide +kernel, rfl, by decide +kernel, by decide +kernel⟩
theorem ok_EmptyRow_init (T : Txt K mg) : XKCal P w K mg base "EmptyRow" 1 c_EmptyRow_init := by
  obtain ⟨fd, F⟩ := T.d_EmptyRow_init
  refine xkcal_mk T.c_EmptyRow T.m_EmptyRow_init (fd_ok (k := 0) F sc_EmptyRow_init fun cdv oc od osl A outer s H E hcode hci hlk hr => ?_) (F.bindsN fun _ _ _ _ _ _ us hl => match us, hl with | [_, _, _], _ => rfl)
  exact ⟨_, (db_cons (ds_setX (T.xfld _) (de_var 1) (de_var 0))
    (db_one (ds_setX (T.xfld _) (de_var 2) (de_var 0))))⟩
theorem sc_EmptyStretch_init : FnScope ["self", "first", "last"] ["self", "first", "last"] (defScope s_EmptyStretch_init) := ⟨rfl, rfl, rfl, by decide +kernel, rfl, by decide +kernel, by decide +kernel⟩
theorem ok_EmptyStretch_init (T : Txt K mg) : XKCal P w K mg base "EmptyStretch" 1 c_EmptyStretch_init := by
  obtain ⟨fd, F⟩ := T.d_EmptyStretch_init
  refine xkcal_mk T.c_EmptyStretch T.m_EmptyStretch_init (fd_ok (k := 0) F sc_EmptyStretch_init fun cdv oc od osl A outer s H E hcode hci hlk hr => ?_) (F.bindsN fun _ _ _ _ _ _ us hl => match us, hl with | [_, _, _], _ => rfl)
  exact ⟨_, (db_cons (ds_setX (T.xfld _) (de_var 1) (de_var 0))
    (db_one (ds_setX (T.xfld _) (de_var 2) (de_var 0))))⟩
theorem sc_Clash_init : FnScope ["self", "earlier", "later"] ["self", "earlier", "later"] (defScope s_Clash_init) := ⟨rfl, rfl, rfl, by decide +kernel, rfl, by decide +kernel, by decide +kernel⟩
theorem ok_Clash_init (T : Txt K mg) : XKCal P w K mg base "Clash" 1 c_Clash_init := by
  obtain ⟨fd, F⟩ := T.d_Clash_init
  refine xkcal_mk T.c_Clash T.m_Clash_init (fd_ok (k := 0) F sc_Clash_init fun cdv oc od osl A outer s H E hcode hci hlk hr => ?_) (F.bindsN fun _ _ _ _ _ _ us hl => match us, hl with | [_, _, _], _ => rfl)
  exact ⟨_, (db_cons (ds_setX (T.xfld _) (de_var 1) (de_var 0))
    (db_one (ds_setX (T.xfld _) (de_var 2) (de_var 0))))⟩
theorem sc_TwoRows_init : FnScope ["self", "earlier", "later"] ["self", "earlier", "later"] (defScope s_TwoRows_init) := ⟨rfl, rfl, rfl, by decide +kernel, rfl, by decide +kernel, by decide +kernel⟩
theorem ok_TwoRows_init (T : Txt K mg) : XKCal P w K mg base "TwoRows" 1 c_TwoRows_init := by
  obtain ⟨fd, F⟩ := T.d_TwoRows_init
  refine xkcal_mk T.c_TwoRows T.m_TwoRows_init (fd_ok (k := 0) F sc_TwoRows_init fun cdv oc od osl A outer s H E hcode hci hlk hr => ?_) (F.bindsN fun _ _ _ _ _ _ us hl => match us, hl with | [_, _, _], _ => rfl)
  exact ⟨_, (db_cons (ds_setX (T.xfld _) (de_var 1) (de_var 0))
    (db_one (ds_setX (T.xfld _) (de_var 2) (de_var 0))))⟩
theorem sc_Refused_init : FnScope ["self", "index", "name", "why"] ["self", "index", "name", "why"] (defScope s_Refused_init) := ⟨rfl, rfl, rfl, by decide +kernel, rfl, by decide +kernel, by decide +kernel⟩
theorem ok_Refused_init (T : Txt K mg) : XKCal P w K mg base "Refused" 1 c_Refused_init := by
  obtain ⟨fd, F⟩ := T.d_Refused_init
  refine xkcal_mk T.c_Refused T.m_Refused_init (fd_ok (k := 0) F sc_Refused_init fun cdv oc od osl A outer s H E hcode hci hlk hr => ?_) (F.bindsN fun _ _ _ _ _ _ us hl => match us, hl with | [_, _, _, _], _ => rfl)
  exact ⟨_, (db_cons (ds_setX (T.xfld _) (de_var 1) (de_var 0))
    (db_cons (ds_setX (T.xfld _) (de_var 2) (de_var 0))
    (db_one (ds_setX (T.xfld _) (de_var 3) (de_var 0)))))⟩
theorem sc__law_pairs_right : FnScope ["bag", "first", "last", "name", "earlier", "later", "row", "stretch", "clash", "two", "refused"] ["bag"] (defScope s__law_pairs_right) := ⟨rfl, rfl, rfl, by decide +kernel, rfl, by decide +kernel, by decide +kernel⟩
theorem ok__law_pairs_right (T : Txt K mg) : Cal P w K mg base "_law_pairs_right" 4 c__law_pairs_right := by
  obtain ⟨fd, F⟩ := T.d__law_pairs_right
  refine cal_mk T.g__law_pairs_right F.kp (fd_ok (k := 3) F sc__law_pairs_right fun cdv oc od osl A outer s H E hcode hci hlk hr => ?_) (F.bindsN fun _ _ _ _ _ _ us hl => match us, hl with | [_], _ => rfl)
  exact ⟨_, (db_cons (ds_par3 rfl sc__law_pairs_right.nd (i := 1) (j := 2) (l := 3) rfl rfl rfl (by decide) (by decide) (by decide) rfl rfl rfl (dm_v (e_call (ok__law_day T) hr (da_cons (de_var 0) da_nil)) (dm_v (e_call (ok__law_day T) hr (da_cons (de_var 0) da_nil)) (dm_v (e_call (ok__law_of T) hr (da_cons (de_var 0) (da_cons (de_lst (da_cons de_str (da_cons de_str (da_cons de_str (da_cons de_str da_nil))))) da_nil))) dm_nil))) rfl)
    (db_cons (ds_par rfl sc__law_pairs_right.nd (i := 4) (j := 5) rfl rfl (by decide) rfl rfl (dm_v (de_tup (da_cons (de_var 1) (da_cons de_non (da_cons (e_call (ok__law_value T) hr (da_cons (de_var 0) da_nil)) da_nil)))) (dm_v (de_tup (da_cons (de_var 2) (da_cons (de_op op_addA pure_add (dr_var 2) (dr_of de_int)) (da_cons (e_call (ok__law_value T) hr (da_cons (de_var 0) da_nil)) da_nil)))) dm_nil)) rfl)
    (db_cons (ds_par3 rfl sc__law_pairs_right.nd (i := 6) (j := 7) (l := 8) rfl rfl rfl (by decide) (by decide) (by decide) rfl rfl rfl (dm_v (e_mkX (ok_EmptyRow_init T) hr (da_cons (de_var 1) (da_cons (de_var 2) da_nil))) (dm_v (e_mkX (ok_EmptyStretch_init T) hr (da_cons (de_var 1) (da_cons (de_var 2) da_nil))) (dm_v (e_mkX (ok_Clash_init T) hr (da_cons (de_var 4) (da_cons (de_var 5) da_nil))) dm_nil))) rfl)
    (db_cons (ds_par rfl sc__law_pairs_right.nd (i := 9) (j := 10) rfl rfl (by decide) rfl rfl (dm_v (e_mkX (ok_TwoRows_init T) hr (da_cons (de_var 4) (da_cons (de_var 5) da_nil))) (dm_v (e_mkX (ok_Refused_init T) hr (da_cons (de_op op_sub pure_sub (dr_of (e_call (ok__law_take T) hr (da_cons (de_var 0) (da_cons de_int da_nil)))) (dr_var 1)) (da_cons (de_var 3) (da_cons de_str da_nil)))) dm_nil)) rfl)
    (db_cons (ds_if (dt_cmp (op_neD hr.u64) pure_ne (dr_of (de_lst (da_cons (de_xo (T.xfld _) (de_var 6)) (da_cons (de_xo (T.xfld _) (de_var 6)) (da_cons (de_xo (T.xfld _) (de_var 7)) (da_cons (de_xo (T.xfld _) (de_var 7)) da_nil)))))) (dr_of (de_lst (da_cons (de_var 1) (da_cons (de_var 2) (da_cons (de_var 1) (da_cons (de_var 2) da_nil)))))) (nomark _)) (db_one (ds_ret de_bl)) db_nil)
    (db_cons (ds_if (dt_cmp (op_neD hr.u64) pure_ne (dr_of (de_lst (da_cons (de_xo (T.xfld _) (de_var 8)) (da_cons (de_xo (T.xfld _) (de_var 8)) (da_cons (de_xo (T.xfld _) (de_var 9)) (da_cons (de_xo (T.xfld _) (de_var 9)) da_nil)))))) (dr_of (de_lst (da_cons (de_var 4) (da_cons (de_var 5) (da_cons (de_var 4) (da_cons (de_var 5) da_nil)))))) (nomark _)) (db_one (ds_ret de_bl)) db_nil)
    (db_cons (ds_if (dt_cmp (op_neD hr.u64) pure_ne (dr_of (de_lst (da_cons (de_inR T.free (de_op op_addA pure_add (dr_of (de_xo (T.xfld _) (de_var 10))) (dr_var 1)) de_int) (da_cons (de_xo (T.xfld _) (de_var 10)) (da_cons (de_xo (T.xfld _) (de_var 10)) da_nil))))) (dr_of (de_lst (da_cons de_bl (da_cons (de_var 3) (da_cons de_str da_nil))))) (nomark _)) (db_one (ds_ret de_bl)) db_nil)
    (db_cons (ds_if (DW.dt (dw_or (dt_not (dt_tru (dr_of (e_call (ok__law_is_own T) hr (da_cons (de_var 6) (da_cons de_int da_nil)))))) (dw_or (dt_not (dt_tru (dr_of (e_call (ok__law_is_own T) hr (da_cons (de_var 7) (da_cons de_int da_nil)))))) (dw_or1 (dt_not (dt_tru (dr_of (e_call (ok__law_is_own T) hr (da_cons (de_var 8) (da_cons de_int da_nil)))))))))) (db_one (ds_ret de_bl)) db_nil)
    (db_one (ds_ret (de_and (e_call (ok__law_is_own T) hr (da_cons (de_var 9) (da_cons de_int da_nil))) (de_one (e_call (ok__law_is_own T) hr (da_cons (de_var 10) (da_cons de_int da_nil)))))))))))))))⟩
theorem sc__law_right : FnScope ["bag", "number", "word", "ends", "unordered", "bad", "many", "far", "missing", "other", "barred", "unknown", "strange", "twice", "turns", "told"] ["bag"] (defScope s__law_right) := ⟨rfl, rfl, rfl, by decide +kernel, rfl, by decide +kernel, by decide +kernel⟩
theorem ok__law_right (T : Txt K mg) : Cal P w K mg base "_law_right" 5 c__law_right := by
  obtain ⟨fd, F⟩ := T.d__law_right
  refine cal_mk T.g__law_right F.kp (fd_ok (k := 4) F sc__law_right fun cdv oc od osl A outer s H E hcode hci hlk hr => ?_) (F.bindsN fun _ _ _ _ _ _ us hl => match us, hl with | [_], _ => rfl)
  exact ⟨_, (db_cons (ds_par3 rfl sc__law_right.nd (i := 1) (j := 2) (l := 3) rfl rfl rfl (by decide) (by decide) (by decide) rfl rfl rfl (dm_v (e_call (ok__law_day T) hr (da_cons (de_var 0) da_nil)) (dm_v (e_call (ok__law_of T) hr (da_cons (de_var 0) (da_cons (de_lst (da_cons de_str (da_cons de_str (da_cons de_str (da_cons de_str da_nil))))) da_nil))) (dm_v (e_call (ok__law_ends T) hr (da_cons (de_var 0) da_nil)) dm_nil))) rfl)
    (db_cons (ds_asg (de_tup (da_cons (e_mkX (ok_Unordered_init T) hr (da_cons (de_var 1) da_nil)) (da_cons (e_mkX (ok_BadLine_init T) hr (da_cons (de_var 1) da_nil)) (da_cons (e_mkX (ok_TooMany_init T) hr (da_cons (de_var 1) da_nil)) (da_cons (e_mkX (ok_TooFar_init T) hr (da_cons (de_var 1) da_nil)) da_nil))))) (dg_tup rfl (dgs_cons (dg_name sc__law_right.nd (i := 4) rfl (by first | exact Or.inl rfl | exact Or.inr rfl)) (dgs_cons (dg_name sc__law_right.nd (i := 5) rfl (by first | exact Or.inl rfl | exact Or.inr rfl)) (dgs_cons (dg_name sc__law_right.nd (i := 6) rfl (by first | exact Or.inl rfl | exact Or.inr rfl)) (dgs_cons (dg_name sc__law_right.nd (i := 7) rfl (by first | exact Or.inl rfl | exact Or.inr rfl)) dgs_nil))))))
    (db_cons (ds_asg (de_tup (da_cons (e_mkX (ok_NoDay_init T) hr (da_cons (de_var 1) da_nil)) (da_cons (e_mkX (ok_OtherEnds_init T) hr (da_cons (de_var 3) da_nil)) (da_cons (e_mkX (ok_NotAllowed_init T) hr (da_cons (de_var 2) da_nil)) (da_cons (e_mkX (ok_Unknown_init T) hr (da_cons (de_var 2) da_nil)) da_nil))))) (dg_tup rfl (dgs_cons (dg_name sc__law_right.nd (i := 8) rfl (by first | exact Or.inl rfl | exact Or.inr rfl)) (dgs_cons (dg_name sc__law_right.nd (i := 9) rfl (by first | exact Or.inl rfl | exact Or.inr rfl)) (dgs_cons (dg_name sc__law_right.nd (i := 10) rfl (by first | exact Or.inl rfl | exact Or.inr rfl)) (dgs_cons (dg_name sc__law_right.nd (i := 11) rfl (by first | exact Or.inl rfl | exact Or.inr rfl)) dgs_nil))))))
    (db_cons (ds_par3 rfl sc__law_right.nd (i := 12) (j := 13) (l := 14) rfl rfl rfl (by decide) (by decide) (by decide) rfl rfl rfl (dm_v (e_mkX (ok_Unknown_init T) hr (da_cons (de_var 1) da_nil)) (dm_v (e_mkX (ok_Twice_init T) hr (da_cons (de_var 1) da_nil)) (dm_v (e_mkX (ok_BadTurns_init T) hr (da_cons (de_var 2) da_nil)) dm_nil))) rfl)
    (db_cons (ds_asg (de_lst (da_cons (de_xo (T.xfld _) (de_var 4)) (da_cons (de_xo (T.xfld _) (de_var 5)) (da_cons (de_xo (T.xfld _) (de_var 6)) (da_cons (de_xo (T.xfld _) (de_var 7)) (da_cons (de_xo (T.xfld _) (de_var 8)) (da_cons (de_xo (T.xfld _) (de_var 12)) (da_cons (de_xo (T.xfld _) (de_var 13)) da_nil)))))))) (dg_name sc__law_right.nd (i := 15) rfl (by first | exact Or.inl rfl | exact Or.inr rfl)))
    (db_cons (ds_if (DW.dt (dw_or (dt_cmp (op_neD hr.u64) pure_ne (dr_var 15) (dr_of (de_op op_mulA pure_mul (dr_of (de_lst (da_cons (de_var 1) da_nil))) (dr_of de_int))) (nomark _)) (dw_or1 (dt_cmp (op_neD hr.u64) pure_ne (dr_of (de_lst (da_cons (de_xo (T.xfld _) (de_var 9)) (da_cons (de_xo (T.xfld _) (de_var 10)) (da_cons (de_xo (T.xfld _) (de_var 11)) (da_cons (de_xo (T.xfld _) (de_var 14)) da_nil)))))) (dr_of (de_lst (da_cons (de_var 3) (da_cons (de_var 2) (da_cons (de_var 2) (da_cons (de_var 2) da_nil)))))) (nomark _))))) (db_one (ds_ret de_bl)) db_nil)
    (db_cons (ds_if (dt_not (dt_tru (dr_of (e_all T.free (dar_cons (dr_of (de_lst (da_cons (e_call (ok__law_is_own T) hr (da_cons (de_var 4) (da_cons de_int da_nil))) (da_cons (e_call (ok__law_is_own T) hr (da_cons (de_var 5) (da_cons de_int da_nil))) (da_cons (e_call (ok__law_is_own T) hr (da_cons (de_var 6) (da_cons de_int da_nil))) (da_cons (e_call (ok__law_is_own T) hr (da_cons (de_var 7) (da_cons de_int da_nil))) da_nil)))))) dar_nil))))) (db_one (ds_ret de_bl)) db_nil)
    (db_cons (ds_if (dt_not (dt_tru (dr_of (e_all T.free (dar_cons (dr_of (de_lst (da_cons (e_call (ok__law_is_own T) hr (da_cons (de_var 8) (da_cons de_int da_nil))) (da_cons (e_call (ok__law_is_own T) hr (da_cons (de_var 9) (da_cons de_int da_nil))) (da_cons (e_call (ok__law_is_own T) hr (da_cons (de_var 10) (da_cons de_int da_nil))) (da_cons (e_call (ok__law_is_own T) hr (da_cons (de_var 11) (da_cons de_int da_nil))) da_nil)))))) dar_nil))))) (db_one (ds_ret de_bl)) db_nil)
    (db_cons (ds_if (DW.dt (dw_or (dt_not (dt_tru (dr_of (e_call (ok__law_is_own T) hr (da_cons (de_var 12) (da_cons de_int da_nil)))))) (dw_or (dt_not (dt_tru (dr_of (e_call (ok__law_is_own T) hr (da_cons (de_var 13) (da_cons de_int da_nil)))))) (dw_or1 (dt_not (dt_tru (dr_of (e_call (ok__law_is_own T) hr (da_cons (de_var 14) (da_cons de_int da_nil)))))))))) (db_one (ds_ret de_bl)) db_nil)
    (db_cons (ds_if (DW.dt (dw_or (dt_not (dt_tru (dr_of (e_call (ok__law_is_own T) hr (da_cons (e_mkX0 T.x_NothingWrong T.c_NothingWrong) (da_cons de_int da_nil)))))) (dw_or (dt_not (dt_tru (dr_of (e_call (ok__law_is_own T) hr (da_cons (e_mkX0 T.x_NoScene T.c_NoScene) (da_cons de_int da_nil)))))) (dw_or1 (dt_not (dt_tru (dr_of (e_call (ok__law_is_own T) hr (da_cons (e_mkX0 T.x_HasHeads T.c_HasHeads) (da_cons de_int da_nil)))))))))) (db_one (ds_ret de_bl)) db_nil)
    (db_one (ds_ret (de_and (de_cmp op_isA pure_is (dr_of (e_any T.free (dar_cons (dr_of (e_call (ok__law_kinds T) hr (da_cons (e_mkX0 T.x_RowsError T.c_RowsError) da_nil))) dar_nil))) (dr_of de_bl) (nomark _)) (de_one (e_call (ok__law_pairs_right T) hr (da_cons (de_var 0) da_nil))))))))))))))))⟩
theorem sc__law_bag : FnScope ["script", "at", "cell", "digits"] ["script", "at"] (defScope s__law_bag) := ⟨rfl, rfl, rfl, by decide +kernel, rfl, by decide +kernel, by decide +kernel⟩
theorem ok__law_bag (T : Txt K mg) : Cal P w K mg base "_law_bag" 1 c__law_bag := by
  obtain ⟨fd, F⟩ := T.d__law_bag
  refine cal_mk T.g__law_bag F.kp (fd_ok (k := 0) F sc__law_bag fun cdv oc od osl A outer s H E hcode hci hlk hr => ?_) (F.bindsN fun _ _ _ _ _ _ us hl => match us, hl with | [_, _], _ => rfl)
  exact ⟨_, (db_cons (ds_asg (de_if (dt_cmp op_lt pure_cmpI (dr_var 1) (dr_of (e_len0 T.free (dar_cons (dr_var 0) dar_nil))) (nomark _)) (de_ix (dr_var 0) (dr_var 1) fun _ _ => rfl) de_int) (dg_name sc__law_bag.nd (i := 2) rfl (by first | exact Or.inl rfl | exact Or.inr rfl)))
    (db_cons (ds_asg (de_if (dt_cmp op_ge pure_cmpI (dr_of (e_abs T.free (dar_cons (dr_var 2) dar_nil))) (dr_of (de_op op_powW pure_pow (dr_of de_int) (dr_of de_int))) (nomark _)) (e_abs T.free (dar_cons (dr_var 2) dar_nil)) de_int) (dg_name sc__law_bag.nd (i := 3) rfl (by first | exact Or.inl rfl | exact Or.inr rfl)))
    (db_one (ds_ret (de_store (dn_lst (da_cons (de_var 3) (da_cons (de_op op_addA pure_add (dr_of (de_op op_addA pure_add (dr_of (de_op op_mulA pure_mul (dr_of (de_op op_mod pure_mod (dr_of (e_int T.free (dar_cons (dr_var 2) dar_nil))) (dr_of de_int))) (dr_of de_int))) (dr_of (de_op op_mulA pure_mul (dr_of de_int) (dr_var 1))))) (dr_of de_int)) (da_cons de_int da_nil)))))))))⟩
theorem sc_law : FnScope ["script", "at"] ["script"] (defScope s_law) := ⟨rfl, rfl, rfl, by decide +kernel, rfl, by decide +kernel, by decide +kernel⟩
theorem run_law (T : Txt K mg) {fd : FuncData} (F : FunD K "law" "law" (defArgs s_law) (defBody s_law) (defScope s_law) [] [] (He.ga K "law") fd) : FnOk P w K mg base CX0 6 (He.ga K "law") fd ["script"] (spD ⟨K, mg, base⟩ false 1 (dDef 2 B_law)) := by
  refine fd_ok (k := 5) F sc_law fun cdv oc od osl A outer s H E hcode hci hlk hr => ?_
  exact ⟨_, (db_cons (ds_for PassesOwn.never rfl (i_range1 T.free (da_cons (e_max2 T.free (dar_cons (dr_of de_int) (dar_cons (dr_of (e_min2 T.free (dar_cons (dr_of de_int) (dar_cons (dr_of (e_len0 T.free (dar_cons (dr_var 0) dar_nil))) dar_nil)))) dar_nil))) da_nil)) (dg_name sc_law.nd (i := 1) rfl (by first | exact Or.inl rfl | exact Or.inr rfl)) (db_one (ds_if (dt_not (dt_tru (dr_of (e_call (ok__law_right T) hr (da_cons (e_call (ok__law_bag T) hr (da_cons (de_var 0) (da_cons (de_var 1) da_nil))) da_nil))))) (db_one (ds_ret de_bl)) db_nil)))
    (db_one (ds_ret de_bl)))⟩
end
def dl : List DefE := [⟨fun K => (He.ga K "_law_take"), "_law_take", "_law_take", defArgs s__law_take, defBody s__law_take, defScope s__law_take, [], []⟩,
  ⟨fun K => (He.ga K "_law_of"), "_law_of", "_law_of", defArgs s__law_of, defBody s__law_of, defScope s__law_of, [], []⟩,
  ⟨fun K => (He.ga K "_law_wide"), "_law_wide", "_law_wide", defArgs s__law_wide, defBody s__law_wide, defScope s__law_wide, [], []⟩,
  ⟨fun K => (He.ga K "_law_day"), "_law_day", "_law_day", defArgs s__law_day, defBody s__law_day, defScope s__law_day, [], []⟩,
  ⟨fun K => (He.ga K "_law_ends"), "_law_ends", "_law_ends", defArgs s__law_ends, defBody s__law_ends, defScope s__law_ends, [], []⟩,
  ⟨fun K => (He.ma K (He.ga K "Unordered") "__init__"), "__init__", "Unordered.__init__", defArgs s_Unordered_init, defBody s_Unordered_init, defScope s_Unordered_init, [], []⟩,
  ⟨fun K => (He.ma K (He.ga K "BadLine") "__init__"), "__init__", "BadLine.__init__", defArgs s_BadLine_init, defBody s_BadLine_init, defScope s_BadLine_init, [], []⟩,
  ⟨fun K => (He.ma K (He.ga K "TooMany") "__init__"), "__init__", "TooMany.__init__", defArgs s_TooMany_init, defBody s_TooMany_init, defScope s_TooMany_init, [], []⟩,
  ⟨fun K => (He.ma K (He.ga K "TooFar") "__init__"), "__init__", "TooFar.__init__", defArgs s_TooFar_init, defBody s_TooFar_init, defScope s_TooFar_init, [], []⟩,
  ⟨fun K => (He.ma K (He.ga K "NoDay") "__init__"), "__init__", "NoDay.__init__", defArgs s_NoDay_init, defBody s_NoDay_init, defScope s_NoDay_init, [], []⟩,
  ⟨fun K => (He.ma K (He.ga K "OtherEnds") "__init__"), "__init__", "OtherEnds.__init__", defArgs s_OtherEnds_init, defBody s_OtherEnds_init, defScope s_OtherEnds_init, [], []⟩,
  ⟨fun K => (He.ma K (He.ga K "NotAllowed") "__init__"), "__init__", "NotAllowed.__init__", defArgs s_NotAllowed_init, defBody s_NotAllowed_init, defScope s_NotAllowed_init, [], []⟩,
  ⟨fun K => (He.ma K (He.ga K "Unknown") "__init__"), "__init__", "Unknown.__init__", defArgs s_Unknown_init, defBody s_Unknown_init, defScope s_Unknown_init, [], []⟩,
  ⟨fun K => (He.ma K (He.ga K "Twice") "__init__"), "__init__", "Twice.__init__", defArgs s_Twice_init, defBody s_Twice_init, defScope s_Twice_init, [], []⟩,
  ⟨fun K => (He.ma K (He.ga K "BadTurns") "__init__"), "__init__", "BadTurns.__init__", defArgs s_BadTurns_init, defBody s_BadTurns_init, defScope s_BadTurns_init, [], []⟩,
  ⟨fun K => (He.ga K "_law_kinds"), "_law_kinds", "_law_kinds", defArgs s__law_kinds, defBody s__law_kinds, defScope s__law_kinds, [], []⟩,
  ⟨fun K => (He.ga K "_law_is_own"), "_law_is_own", "_law_is_own", defArgs s__law_is_own, defBody s__law_is_own, defScope s__law_is_own, [], []⟩,
  ⟨fun K => (He.ga K "_law_value"), "_law_value", "_law_value", defArgs s__law_value, defBody s__law_value, defScope s__law_value, [], []⟩,
  ⟨fun K => (He.ma K (He.ga K "EmptyRow") "__init__"), "__init__", "EmptyRow.__init__", defArgs s_EmptyRow_init, defBody s_EmptyRow_init, defScope s_EmptyRow_init, [], []⟩,
  ⟨fun K => (He.ma K (He.ga K "EmptyStretch") "__init__"), "__init__", "EmptyStretch.__init__", defArgs s_EmptyStretch_init, defBody s_EmptyStretch_init, defScope s_EmptyStretch_init, [], []⟩,
  ⟨fun K => (He.ma K (He.ga K "Clash") "__init__"), "__init__", "Clash.__init__", defArgs s_Clash_init, defBody s_Clash_init, defScope s_Clash_init, [], []⟩,
  ⟨fun K => (He.ma K (He.ga K "TwoRows") "__init__"), "__init__", "TwoRows.__init__", defArgs s_TwoRows_init, defBody s_TwoRows_init, defScope s_TwoRows_init, [], []⟩,
  ⟨fun K => (He.ma K (He.ga K "Refused") "__init__"), "__init__", "Refused.__init__", defArgs s_Refused_init, defBody s_Refused_init, defScope s_Refused_init, [], []⟩,
  ⟨fun K => (He.ga K "_law_pairs_right"), "_law_pairs_right", "_law_pairs_right", defArgs s__law_pairs_right, defBody s__law_pairs_right, defScope s__law_pairs_right, [], []⟩,
  ⟨fun K => (He.ga K "_law_right"), "_law_right", "_law_right", defArgs s__law_right, defBody s__law_right, defScope s__law_right, [], []⟩,
  ⟨fun K => (He.ga K "_law_bag"), "_law_bag", "_law_bag", defArgs s__law_bag, defBody s__law_bag, defScope s__law_bag, [], []⟩,
  ⟨fun K => (He.ga K "law"), "law", "law", defArgs s_law, defBody s_law, defScope s_law, [], []⟩]
def tf : List He.Defn := []
def fl : List Fact := [freeB, fldB flds, isB classes, (fun K => decide ((tf.map fun p => (He.cT K p).2).Nodup)), fOf (.glo "Unordered"), fOf (.glo "BadLine"), fOf (.glo "TooMany"), fOf (.glo "TooFar"), fOf (.glo "NoDay"), fOf (.glo "OtherEnds"), fOf (.glo "NotAllowed"), fOf (.glo "Unknown"), fOf (.glo "Twice"), fOf (.glo "BadTurns"), fOf (.glo "RowsError"), fOf (.glo "EmptyRow"), fOf (.glo "EmptyStretch"), fOf (.glo "Clash"), fOf (.glo "TwoRows"), fOf (.glo "NothingWrong"), fOf (.glo "NoScene"), fOf (.glo "HasHeads"), fOf (.glo "Refused"), (fun K => mkx0B K (He.ga K "NothingWrong")), (fun K => mkx0B K (He.ga K "NoScene")), (fun K => mkx0B K (He.ga K "HasHeads")), (fun K => mkx0B K (He.ga K "RowsError")), xfldB xflds, isXB xclasses xups, fOf (.glo "_law_take"), fOf (.glo "_law_of"), fOf (.glo "_law_wide"), fOf (.glo "_law_day"), fOf (.glo "_law_ends"), (fun K => mkxB K (He.ga K "Unordered") (He.ma K (He.ga K "Unordered") "__init__")), (fun K => mkxB K (He.ga K "BadLine") (He.ma K (He.ga K "BadLine") "__init__")), (fun K => mkxB K (He.ga K "TooMany") (He.ma K (He.ga K "TooMany") "__init__")), (fun K => mkxB K (He.ga K "TooFar") (He.ma K (He.ga K "TooFar") "__init__")), (fun K => mkxB K (He.ga K "NoDay") (He.ma K (He.ga K "NoDay") "__init__")), (fun K => mkxB K (He.ga K "OtherEnds") (He.ma K (He.ga K "OtherEnds") "__init__")), (fun K => mkxB K (He.ga K "NotAllowed") (He.ma K (He.ga K "NotAllowed") "__init__")), (fun K => mkxB K (He.ga K "Unknown") (He.ma K (He.ga K "Unknown") "__init__")), (fun K => mkxB K (He.ga K "Twice") (He.ma K (He.ga K "Twice") "__init__")), (fun K => mkxB K (He.ga K "BadTurns") (He.ma K (He.ga K "BadTurns") "__init__")), fOf (.glo "_law_kinds"), fOf (.glo "_law_is_own"), fOf (.glo "_law_value"), (fun K => mkxB K (He.ga K "EmptyRow") (He.ma K (He.ga K "EmptyRow") "__init__")), (fun K => mkxB K (He.ga K "EmptyStretch") (He.ma K (He.ga K "EmptyStretch") "__init__")), (fun K => mkxB K (He.ga K "Clash") (He.ma K (He.ga K "Clash") "__init__")), (fun K => mkxB K (He.ga K "TwoRows") (He.ma K (He.ga K "TwoRows") "__init__")), (fun K => mkxB K (He.ga K "Refused") (He.ma K (He.ga K "Refused") "__init__")), fOf (.glo "_law_pairs_right"), fOf (.glo "_law_right"), fOf (.glo "_law_bag"), fOf (.glo "law")]
def ts : List Tb := []
theorem all_classes {p : Str → Prop}  : ∀ z ∈ classes, p z := by
  intro z hz
  unfold classes at hz
  first | (cases hz; done) | skip
theorem all_x {p : Str → Prop} (h0 : p "Unordered") (h1 : p "BadLine") (h2 : p "TooMany") (h3 : p "TooFar") (h4 : p "NoDay") (h5 : p "OtherEnds") (h6 : p "NotAllowed") (h7 : p "Unknown") (h8 : p "Twice") (h9 : p "BadTurns") (h10 : p "RowsError") (h11 : p "EmptyRow") (h12 : p "EmptyStretch") (h13 : p "Clash") (h14 : p "TwoRows") (h15 : p "NothingWrong") (h16 : p "NoScene") (h17 : p "HasHeads") (h18 : p "Refused") : ∀ z ∈ xclasses, p z := by
  intro z hz
  unfold xclasses at hz
  simp only [List.mem_cons, List.not_mem_nil, or_false] at hz
  rcases hz with rfl | rfl | rfl | rfl | rfl | rfl | rfl | rfl | rfl | rfl | rfl | rfl | rfl | rfl | rfl | rfl | rfl | rfl | rfl
  · exact h0
  · exact h1
  · exact h2
  · exact h3
  · exact h4
  · exact h5
  · exact h6
  · exact h7
  · exact h8
  · exact h9
  · exact h10
  · exact h11
  · exact h12
  · exact h13
  · exact h14
  · exact h15
  · exact h16
  · exact h17
  · exact h18
theorem txt_of {h : Heap} {K : PySem.W.Frag} {mg : Str → Option Value} (X : K.In h) (G : h.Ns mainGlobals mg) (c : SaysY fl dl tf h K) : Txt K mg where
  free := free_of X G (c.fact 0)
  fld := fun _ => fldOk_of X G (c.fact 1)
  isT := fun _ => isB_ok (c.fact 2) (all_classes (p := fun z => Cls K (He.ga K z)) ) (all_classes (p := fun z => mg z = some (.ref (He.ga K z))) )
  c_Unordered := He.glo_ok X G (c.fact 4 (f := fOf (.glo "Unordered")))
  c_BadLine := He.glo_ok X G (c.fact 5 (f := fOf (.glo "BadLine")))
  c_TooMany := He.glo_ok X G (c.fact 6 (f := fOf (.glo "TooMany")))
  c_TooFar := He.glo_ok X G (c.fact 7 (f := fOf (.glo "TooFar")))
  c_NoDay := He.glo_ok X G (c.fact 8 (f := fOf (.glo "NoDay")))
  c_OtherEnds := He.glo_ok X G (c.fact 9 (f := fOf (.glo "OtherEnds")))
  c_NotAllowed := He.glo_ok X G (c.fact 10 (f := fOf (.glo "NotAllowed")))
  c_Unknown := He.glo_ok X G (c.fact 11 (f := fOf (.glo "Unknown")))
  c_Twice := He.glo_ok X G (c.fact 12 (f := fOf (.glo "Twice")))
  c_BadTurns := He.glo_ok X G (c.fact 13 (f := fOf (.glo "BadTurns")))
  c_RowsError := He.glo_ok X G (c.fact 14 (f := fOf (.glo "RowsError")))
  c_EmptyRow := He.glo_ok X G (c.fact 15 (f := fOf (.glo "EmptyRow")))
  c_EmptyStretch := He.glo_ok X G (c.fact 16 (f := fOf (.glo "EmptyStretch")))
  c_Clash := He.glo_ok X G (c.fact 17 (f := fOf (.glo "Clash")))
  c_TwoRows := He.glo_ok X G (c.fact 18 (f := fOf (.glo "TwoRows")))
  c_NothingWrong := He.glo_ok X G (c.fact 19 (f := fOf (.glo "NothingWrong")))
  c_NoScene := He.glo_ok X G (c.fact 20 (f := fOf (.glo "NoScene")))
  c_HasHeads := He.glo_ok X G (c.fact 21 (f := fOf (.glo "HasHeads")))
  c_Refused := He.glo_ok X G (c.fact 22 (f := fOf (.glo "Refused")))
  x_NothingWrong := mkx0B_ok (c.fact 23)
  x_NoScene := mkx0B_ok (c.fact 24)
  x_HasHeads := mkx0B_ok (c.fact 25)
  x_RowsError := mkx0B_ok (c.fact 26)
  xfld := fun _ => xOk_of X G (c.fact 27)
  isX := fun _ => isXB_ok (c.fact 28) (all_x (p := fun z => mg z = some (.ref (He.ga K z))) (He.glo_ok X G (c.fact 4 (f := fOf (.glo "Unordered")))) (He.glo_ok X G (c.fact 5 (f := fOf (.glo "BadLine")))) (He.glo_ok X G (c.fact 6 (f := fOf (.glo "TooMany")))) (He.glo_ok X G (c.fact 7 (f := fOf (.glo "TooFar")))) (He.glo_ok X G (c.fact 8 (f := fOf (.glo "NoDay")))) (He.glo_ok X G (c.fact 9 (f := fOf (.glo "OtherEnds")))) (He.glo_ok X G (c.fact 10 (f := fOf (.glo "NotAllowed")))) (He.glo_ok X G (c.fact 11 (f := fOf (.glo "Unknown")))) (He.glo_ok X G (c.fact 12 (f := fOf (.glo "Twice")))) (He.glo_ok X G (c.fact 13 (f := fOf (.glo "BadTurns")))) (He.glo_ok X G (c.fact 14 (f := fOf (.glo "RowsError")))) (He.glo_ok X G (c.fact 15 (f := fOf (.glo "EmptyRow")))) (He.glo_ok X G (c.fact 16 (f := fOf (.glo "EmptyStretch")))) (He.glo_ok X G (c.fact 17 (f := fOf (.glo "Clash")))) (He.glo_ok X G (c.fact 18 (f := fOf (.glo "TwoRows")))) (He.glo_ok X G (c.fact 19 (f := fOf (.glo "NothingWrong")))) (He.glo_ok X G (c.fact 20 (f := fOf (.glo "NoScene")))) (He.glo_ok X G (c.fact 21 (f := fOf (.glo "HasHeads")))) (He.glo_ok X G (c.fact 22 (f := fOf (.glo "Refused")))))
  g__law_take := He.glo_ok X G (c.fact 29 (f := fOf (.glo "_law_take")))
  d__law_take := c.def_ 0
  g__law_of := He.glo_ok X G (c.fact 30 (f := fOf (.glo "_law_of")))
  d__law_of := c.def_ 1
  g__law_wide := He.glo_ok X G (c.fact 31 (f := fOf (.glo "_law_wide")))
  d__law_wide := c.def_ 2
  g__law_day := He.glo_ok X G (c.fact 32 (f := fOf (.glo "_law_day")))
  d__law_day := c.def_ 3
  g__law_ends := He.glo_ok X G (c.fact 33 (f := fOf (.glo "_law_ends")))
  d__law_ends := c.def_ 4
  m_Unordered_init := mkxB_ok (c.fact 34)
  d_Unordered_init := c.def_ 5
  m_BadLine_init := mkxB_ok (c.fact 35)
  d_BadLine_init := c.def_ 6
  m_TooMany_init := mkxB_ok (c.fact 36)
  d_TooMany_init := c.def_ 7
  m_TooFar_init := mkxB_ok (c.fact 37)
  d_TooFar_init := c.def_ 8
  m_NoDay_init := mkxB_ok (c.fact 38)
  d_NoDay_init := c.def_ 9
  m_OtherEnds_init := mkxB_ok (c.fact 39)
  d_OtherEnds_init := c.def_ 10
  m_NotAllowed_init := mkxB_ok (c.fact 40)
  d_NotAllowed_init := c.def_ 11
  m_Unknown_init := mkxB_ok (c.fact 41)
  d_Unknown_init := c.def_ 12
  m_Twice_init := mkxB_ok (c.fact 42)
  d_Twice_init := c.def_ 13
  m_BadTurns_init := mkxB_ok (c.fact 43)
  d_BadTurns_init := c.def_ 14
  g__law_kinds := He.glo_ok X G (c.fact 44 (f := fOf (.glo "_law_kinds")))
  d__law_kinds := c.def_ 15
  g__law_is_own := He.glo_ok X G (c.fact 45 (f := fOf (.glo "_law_is_own")))
  d__law_is_own := c.def_ 16
  g__law_value := He.glo_ok X G (c.fact 46 (f := fOf (.glo "_law_value")))
  d__law_value := c.def_ 17
  m_EmptyRow_init := mkxB_ok (c.fact 47)
  d_EmptyRow_init := c.def_ 18
  m_EmptyStretch_init := mkxB_ok (c.fact 48)
  d_EmptyStretch_init := c.def_ 19
  m_Clash_init := mkxB_ok (c.fact 49)
  d_Clash_init := c.def_ 20
  m_TwoRows_init := mkxB_ok (c.fact 50)
  d_TwoRows_init := c.def_ 21
  m_Refused_init := mkxB_ok (c.fact 51)
  d_Refused_init := c.def_ 22
  g__law_pairs_right := He.glo_ok X G (c.fact 52 (f := fOf (.glo "_law_pairs_right")))
  d__law_pairs_right := c.def_ 23
  g__law_right := He.glo_ok X G (c.fact 53 (f := fOf (.glo "_law_right")))
  d__law_right := c.def_ 24
  g__law_bag := He.glo_ok X G (c.fact 54 (f := fOf (.glo "_law_bag")))
  d__law_bag := c.def_ 25
  g_law := He.glo_ok X G (c.fact 55 (f := fOf (.glo "law")))
  d_law := c.def_ 26
end DD

namespace DD
theorem pure_law : ∀ ns : List Int, ns.length ≤ 63 → (∀ z ∈ ns, PySem.Builtin.Int.intBits z ≤ 1048576) → ∃ m, c_law [.scr ns] (ts.map Tb.ob) = .ok (.bl true) m := fun ns h _ => Ca.ex (pure_law0 ns h (ts.map Tb.ob))
end DD
namespace DD
open PySem L2 ClX
open PyProof.Rows hiding St
abbrev RR : PySem.W.OpenRow := PySem.W.OpenLaw.row PySem.Challenge.rw_untilrows_k99_errors_made
def loose0 : List Str := ["RowsError", "EmptyRow", "EmptyStretch", "Unordered", "Clash", "BadLine", "TooMany", "TooFar", "NoDay", "OtherEnds", "NotAllowed", "Unknown", "Twice", "TwoRows", "NothingWrong", "NoScene", "HasHeads", "BadTurns", "Refused", "_law_bag", "_law_take", "_law_wide", "_law_of", "_law_day", "_law_value", "_law_ends", "_law_kinds", "_law_is_own", "_law_pairs_right", "_law_right"]
def loose : List Str := loose0
def ob (s : PySem.W.SharedT) : AlY := obsF 5 fl dl tf (HandSHeadRun.getT s)
theorem ob_eq (s : PySem.W.SharedT) : ob s = (hookF 5 fl dl tf).obs s.abs   := obsF_eq (HandSHeadRun.getT_eq s)
section
open PySem PySem.W HandSHeadRun
theorem run_a (w : World) (os : OsState) : (endF (stepQ (denQ tabQ) RR.prog w) 6000 RR.prog w os).map (fun s => looksF RR.prog (boot_heap w.params) s.abs) = some true := by
  kernel_rfl
theorem run_b (w : World) (os : OsState) : (endF (stepQ (denQ tabQ) RR.prog w) 6000 RR.prog w os).map (fun s => seenQ (PySem.W.view RR.prog [32]) loose (importedModules RR.prog.main.body) (fun s => PySem.W.xlAt (PySem.W.view RR.prog [32]) [] s && PySem.W.recOk RR.toRowW.records s) s.abs) = some (openGood (PySem.W.view RR.prog [32]) loose) := by
  kernel_rfl
theorem run_c (w : World) (os : OsState) : (endF (stepQ (denQ tabQ) RR.prog w) 6000 RR.prog w os).map (fun s => (fl.take 28).all fun f => f (He.frT (HandSHeadRun.getT s) (asF (HandSHeadRun.getT s) 5))) = some true := by
  kernel_rfl
theorem run_d (w : World) (os : OsState) : (endF (stepQ (denQ tabQ) RR.prog w) 6000 RR.prog w os).map (fun s => (fl.drop 28).all fun f => f (He.frT (HandSHeadRun.getT s) (asF (HandSHeadRun.getT s) 5))) = some true := by
  kernel_rfl
theorem run_e (w : World) (os : OsState) : (endF (stepQ (denQ tabQ) RR.prog w) 6000 RR.prog w os).map (fun s => dl.all (fun d => d.ok (He.frT (HandSHeadRun.getT s) (asF (HandSHeadRun.getT s) 5))) && He.tabsB (HandSHeadRun.getT s) tf (He.frT (HandSHeadRun.getT s) (asF (HandSHeadRun.getT s) 5))) = some true := by
  kernel_rfl
theorem run_f (w : World) (os : OsState) : (endF (stepQ (denQ tabQ) RR.prog w) 6000 RR.prog w os).map (fun s => dl.map fun d => fnWa (He.frT (HandSHeadRun.getT s) (asF (HandSHeadRun.getT s) 5)) (d.at_ (He.frT (HandSHeadRun.getT s) (asF (HandSHeadRun.getT s) 5)))) = some (dl.map DefE.val) := by
  kernel_rfl
end
theorem run (w : World) : HandSHeadRun.RunEq RR (PySem.W.view RR.prog [32]) (hookF 5 fl dl tf) ob 6000 loose w := fun os => map3 (run_a w os) (run_b w os) (obs_of (run_c w os) (run_d w os) (run_e w os) (run_f w os))
theorem tabs_home {h : Heap} {K : PySem.W.Frag} {mg : Str → Option Value} (T : Txt K mg) : ∀ (base : Heap) (i : Nat) p t, tf[i]? = some p → ts[i]? = some t → ∃ f oc od fd osl, HomeFn ⟨K, mg, base⟩ t.2.1 f t.1 ∧ K.lookup f = some ⟨oc, od, .func fd, osl⟩ ∧ fd.code = .ref (He.cT K p).1 := by
  intro base i p t h1 h2
  match i, h1, h2 with
  | i + 0, h1, h2 => cases h1
end DD
open PySem PySem.W PySem.Calls PyProof.Rows
theorem PySem.Challenge.cw_untilrows_k99_errors_made_holds : PySem.Challenge.rw_untilrows_k99_errors_made.Holds := by
  w_on; o_law
  refine HandSHeadRun.head_any (r := OpenLaw.row PySem.Challenge.rw_untilrows_k99_errors_made) (q := view (OpenLaw.row PySem.Challenge.rw_untilrows_k99_errors_made).prog [32]) (H := DD.hookF 5 DD.fl DD.dl DD.tf) (ob := DD.ob) (M := 6000) (loose := DD.loose) (d := HandSHeadRun.topDef (OpenLaw.row PySem.Challenge.rw_untilrows_k99_errors_made).prog 32) (kwd := []) DD.ob_eq
    (by kernel_rfl) (fun s => by kernel_rfl) DD.run (by kernel_rfl) (by kernel_rfl) (by kernel_rfl) (by rfl) (by first | assumption | decide +kernel) (by decide +kernel) ⟨rfl, rfl, rfl, rfl, rfl, by decide +kernel⟩ ?hw ?hc
  case hw => w_witness2
  case hc =>
    refine LamX.walk_ofTsE (l := PySem.Challenge.rw_untilrows_k99_errors_made) (n := 63) (k := 6) (x := "script") (CX := fun _ => L2.CX0) rfl (by decide) (by kernel_rfl) ⟨rfl, by decide, by decide⟩ ?F (fun _ _ _ _ _ z => z)
    intro w mg fa h Y G hmg0
    obtain ⟨K, KX, c⟩ := Y
    have hmg : mg ("law" : PySem.Str) = some (.ref fa) := by
      have e : (HandSHeadRun.topDef (OpenLaw.row PySem.Challenge.rw_untilrows_k99_errors_made).prog 32).name = ("law" : PySem.Str) := by kernel_rfl
      rw [← e]
      exact hmg0
    have T := DD.txt_of KX G c
    have e2 := hmg.symm.trans T.g_law
    cases e2
    obtain ⟨fd, F⟩ := T.d_law
    refine ⟨K, KX, DD.law_at (ts := DD.ts) (fd := fd) (den := DD.dDef 2 DD.B_law) c KX (of_decide_eq_true (c.fact 3)) rfl (DD.tabs_home (h := h) T) (fun s u => L2.FunD.bindsA (ps := ["script"]) F (fun _ _ _ _ _ _ us hl => match us, hl with | [_], _ => rfl) s [u] rfl) (fun base _ _ => DD.run_law T F) (fun ns h1 h2 => (DD.pure_law ns h1 h2).imp fun m h => DD.pure_of h)⟩
