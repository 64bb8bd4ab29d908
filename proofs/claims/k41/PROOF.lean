import PyProof.Rows.All
import Wide.All
import OpenK.AllK
import Wide.FinOn
import HandS.ForMost
import HandS.ForExc
import HandS.TupAny
import HandS.Deep
import HandS.Style
import HandS.IsInst
import HandS.TupMul
import HandS.TupLen
import KE.SortData
import KE.DataMinMax
import HandS.HeadHook4
import HandS.ExcIs
import HandS.HeadEnd
import HandS.Head0
import HandS.Head1
import HandS.Head2
import HandS.SetFor
import HandS.TupSets
import HandS.Strs
import HandS.Conv
import HandS.Dict
import HandS.DictSubView
import HandS.More
import HandS.WordsDict
import KE.KDictList
import KE.KDictSum
import KE.DataCmp
import KE.KDictWalk
import HandS.Replace
import HandS.SetTxt0
import HandS.SetTxtIn
import PyProof.ListStr
import KE.GoesRaise
import KE.Datum
import KE.DatumOrd
import KE.DatumMore
import PySem.Challenge.RW_beatfinds_k41_texts
set_option Elab.async false
set_option linter.all false
set_option maxRecDepth 100000
set_option maxHeartbeats 4000000
/-! BF0: data that Python values stand for, the frozen part of the heap, the store of shared objects, slots. -/
namespace BF
open PySem L2

abbrev D := PyData
/-- the i-th shared object; an error of the c-th class; the script -/
abbrev D.ob (i : Nat) : D := .dict [(.none, .int i)]
abbrev D.ex (c : Nat) : D := .dict [(.bool true, .int c)]
abbrev D.scr (ns : List Int) : D := .dict [(.bool false, .list (ns.map .int))]
/-- the error object of class c at a: there, its class known -/
def ExT (cls : Value) (a : Addr) : HO := .ext fun h => ∃ oe : Obj, h.get? a = some oe ∧ Zc cls none oe ∧ ∃ vs, oe.data = .fields vs
theorem exT_ok {P : Program} {w : World} {H : Hp} {h : Heap} {a : Addr} {cls : Value} {oe : Obj} {vs : Array Value} (e : h.get? a = some oe) (z : Zc cls none oe) (d : oe.data = .fields vs) :
    ObjOk P w H h a (ExT cls a) := ⟨⟨oe, e, z, vs, d⟩, ⟨oe, e⟩, fun _ _ ⟨o, q, r⟩ k => ⟨o, k o q, r⟩⟩

/-- what the relation is read over -/
structure Nv where
  K : PySem.W.Frag
  C : Nat → Addr
  F : Hp
  R : List Addr

mutual
inductive Rep (N : Nv) : V → D → Prop
  | non : Rep N .non .none
  | bl (b : Bool) : Rep N (.bl b) (.bool b)
  | int (i : Int) : Rep N (.int i) (.int i)
  | str (x : Str) : Rep N (.str x) (.str x)
  | lst {a : Addr} {vs : List V} {ds : List D} : N.F a = some (.lst vs) → ds.length ≤ sizeLine → RepA N vs ds → Rep N (.ref a) (.list ds)
  | tup {a : Addr} {vs : List V} {ds : List D} : N.F a = some (.tup vs) → ds.length ≤ sizeLine → RepA N vs ds → Rep N (.ref a) (.tuple ds)
  | ob {a : Addr} {i : Nat} : N.R[i]? = some a → Rep N (.ref a) (D.ob i)
  | ex {a : Addr} {c : Nat} : N.F a = some (ExT (.ref (N.C c)) a) → Rep N (.ref a) (D.ex c)
  | scr {a : Addr} {ns : List Int} : SqL N.K N.F a (ns.map V.int) → Rep N (.ref a) (D.scr ns)
  | dK {a : Addr} {kvs : List (Key × V)} {kds : List (D × D)} : N.F a = some (.dK kvs) → kds.length ≤ sizeLine → RepK N kvs kds → Rep N (.ref a) (.dict kds)
  | dT {a : Addr} {o : Obj} {kvs : List (List Key × V)} {kds : List (D × D)} : N.F a = some (.frz o (.dT kvs)) → kds.length ≤ sizeLine → RepT N kvs kds → Rep N (.ref a) (.dict ((.none, .tuple []) :: kds))
inductive RepA (N : Nv) : List V → List D → Prop
  | nil : RepA N [] []
  | cons {v : V} {vs : List V} {d : D} {ds : List D} : Rep N v d → RepA N vs ds → RepA N (v :: vs) (d :: ds)
inductive RepK (N : Nv) : List (Key × V) → List (D × D) → Prop
  | nil : RepK N [] []
  | cons {k : Key} {v : V} {kvs : List (Key × V)} {kd d : D} {kds : List (D × D)} : Rep N (kV k) kd → Rep N v d → RepK N kvs kds → RepK N ((k, v) :: kvs) ((kd, d) :: kds)
inductive RepT (N : Nv) : List (List Key × V) → List (D × D) → Prop
  | nil : RepT N [] []
  | cons {k : List Key} {v : V} {kvs : List (List Key × V)} {ks : List D} {d : D} {kds : List (D × D)} : RepA N (k.map kV) ks → ks.length ≤ sizeLine → Rep N v d → RepT N kvs kds → RepT N ((k, v) :: kvs) ((.tuple ks, d) :: kds)
end

/-- more is known -/
structure Nv.le (N N' : Nv) : Prop where
  K : N.K = N'.K
  C : N.C = N'.C
  F : ∀ a o, N.F a = some o → N'.F a = some o
  R : ∀ (i : Nat) (a : Addr), N.R[i]? = some a → N'.R[i]? = some a
theorem Nv.le.refl (N : Nv) : N.le N := ⟨rfl, rfl, fun _ _ h => h, fun _ _ h => h⟩
theorem Nv.le.trans {N N1 N2 : Nv} (a : N.le N1) (b : N1.le N2) : N.le N2 := ⟨a.K.trans b.K, a.C.trans b.C, fun x o h => b.F x o (a.F x o h), fun i x h => b.R i x (a.R i x h)⟩
theorem sqL_le {K : PySem.W.Frag} {F F' : Hp} (e : ∀ a o, F a = some o → F' a = some o) {a : Addr} {xs : List V} (h : SqL K F a xs) : SqL K F' a xs := by
  rcases h with (h | ⟨o, h⟩) | h
  · exact .inl (.inl (e _ _ h))
  · exact .inl (.inr ⟨o, e _ _ h⟩)
  · exact .inr h
section
variable {N N' : Nv}
mutual
theorem Rep.le (e : N.le N') : ∀ {v : V} {d : D}, Rep N v d → Rep N' v d
  | _, _, .non => .non
  | _, _, .bl b => .bl b
  | _, _, .int i => .int i
  | _, _, .str x => .str x
  | _, _, .lst h z r => .lst (e.F _ _ h) z (r.le e)
  | _, _, .tup h z r => .tup (e.F _ _ h) z (r.le e)
  | _, _, .ob h => .ob (e.R _ _ h)
  | _, _, .ex h => .ex (by rw [← e.C]; exact e.F _ _ h)
  | _, _, .scr h => .scr (by rw [← e.K]; exact sqL_le e.F h)
  | _, _, .dK h z r => .dK (e.F _ _ h) z (r.le e)
  | _, _, .dT h z r => .dT (e.F _ _ h) z (r.le e)
theorem RepA.le (e : N.le N') : ∀ {vs : List V} {ds : List D}, RepA N vs ds → RepA N' vs ds
  | _, _, .nil => .nil
  | _, _, .cons h r => .cons (h.le e) (r.le e)
theorem RepK.le (e : N.le N') : ∀ {vs : List (Key × V)} {ds : List (D × D)}, RepK N vs ds → RepK N' vs ds
  | _, _, .nil => .nil
  | _, _, .cons h q r => .cons (h.le e) (q.le e) (r.le e)
theorem RepT.le (e : N.le N') : ∀ {vs : List (List Key × V)} {ds : List (D × D)}, RepT N vs ds → RepT N' vs ds
  | _, _, .nil => .nil
  | _, _, .cons h z q r => .cons (h.le e) z (q.le e) (r.le e)
end
theorem RepA.length : ∀ {vs : List V} {ds : List D}, RepA N vs ds → vs.length = ds.length
  | _, _, .nil => rfl
  | _, _, .cons _ r => by simp [r.length]
theorem RepA.get : ∀ {vs : List V} {ds : List D} {i : Nat} {v : V}, RepA N vs ds → vs[i]? = some v → ∃ d, ds[i]? = some d ∧ Rep N v d
  | _, _, _, _, .nil, h => by simp at h
  | _, _, 0, _, .cons h r, e => by simp at e; subst e; exact ⟨_, rfl, h⟩
  | _, _, i + 1, _, .cons h r, e => by simpa using RepA.get (i := i) r (by simpa using e)
theorem RepA.getD : ∀ {vs : List V} {ds : List D} {i : Nat} {d : D}, RepA N vs ds → ds[i]? = some d → ∃ v, vs[i]? = some v ∧ Rep N v d
  | _, _, _, _, .nil, h => by simp at h
  | _, _, 0, _, .cons h r, e => by simp at e; subst e; exact ⟨_, rfl, h⟩
  | _, _, i + 1, _, .cons h r, e => by simpa using RepA.getD (i := i) r (by simpa using e)
theorem RepA.append : ∀ {vs ws : List V} {ds es : List D}, RepA N vs ds → RepA N ws es → RepA N (vs ++ ws) (ds ++ es)
  | _, _, _, _, .nil, h => h
  | _, _, _, _, .cons h r, q => .cons h (r.append q)
theorem RepA.take : ∀ {vs : List V} {ds : List D} (n : Nat), RepA N vs ds → RepA N (vs.take n) (ds.take n)
  | _, _, 0, _ => .nil
  | _, _, _ + 1, .nil => .nil
  | _, _, n + 1, .cons h r => .cons h (r.take n)
theorem RepA.drop : ∀ {vs : List V} {ds : List D} (n : Nat), RepA N vs ds → RepA N (vs.drop n) (ds.drop n)
  | _, _, 0, r => r
  | _, _, _ + 1, .nil => .nil
  | _, _, n + 1, .cons _ r => r.drop n
theorem RepA.set {v : V} {d : D} (q : Rep N v d) : ∀ {vs : List V} {ds : List D} (n : Nat), RepA N vs ds → RepA N (vs.set n v) (ds.set n d)
  | _, _, _, .nil => .nil
  | _, _, 0, .cons _ r => .cons q r
  | _, _, n + 1, .cons h r => .cons h (r.set q n)
theorem RepA.rep {vs : List V} {ds : List D} (r : RepA N vs ds) : ∀ k : Nat, RepA N (List.replicate k vs).flatten (List.replicate k ds).flatten
  | 0 => .nil
  | k + 1 => by
    rw [List.replicate_succ, List.replicate_succ, List.flatten_cons, List.flatten_cons]
    exact r.append (r.rep k)
theorem RepA.reverse {vs : List V} {ds : List D} (r : RepA N vs ds) : RepA N vs.reverse ds.reverse := by
  induction vs generalizing ds with
  | nil => cases r; exact .nil
  | cons v vs ih =>
    cases r with
    | cons h r =>
      rw [List.reverse_cons, List.reverse_cons]
      exact (ih r).append (.cons h .nil)
theorem RepA.ints : ∀ {vs : List V} {ns : List Int}, RepA N vs (ns.map .int) → vs = ns.map V.int
  | _, [], h => by cases h; rfl
  | _, n :: ns, h => by
    cases h with
    | cons a r =>
      cases a
      rw [List.map_cons, ← RepA.ints r]
theorem RepA.ofInts : ∀ ns : List Int, RepA N (ns.map V.int) (ns.map .int)
  | [] => .nil
  | n :: ns => .cons (.int n) (RepA.ofInts ns)
theorem RepA.bools : ∀ {vs : List V} {bs : List Bool}, RepA N vs (bs.map .bool) → vs = bs.map V.bl
  | _, [], h => by cases h; rfl
  | _, n :: ns, h => by
    cases h with
    | cons a r =>
      cases a
      rw [List.map_cons, ← RepA.bools r]
theorem RepA.strs : ∀ {vs : List V} {xs : List Str}, RepA N vs (xs.map .str) → vs = xs.map V.str
  | _, [], h => by cases h; rfl
  | _, n :: ns, h => by
    cases h with
    | cons a r =>
      cases a
      rw [List.map_cons, ← RepA.strs r]
theorem RepA.ofStrs : ∀ xs : List Str, RepA N (xs.map V.str) (xs.map .str)
  | [] => .nil
  | n :: ns => .cons (.str n) (RepA.ofStrs ns)
end

/-- shared objects -/
inductive Fl | val (d : D) | own (ds : List D)
inductive Ob
  | lst (ds : List D)
  | dct (kvs : List (Str × Fl))
  | ins (c : Nat) (fs : List (Str × Fl))

/-- the frozen part, the shared objects' addresses (the root first, then those of their own lists) -/
structure Wd where
  F : Hp
  P : List (List Addr)
def Wd.R (w : Wd) : List Addr := w.P.map (·.headD 0)
def Wd.In (w : Wd) (a : Addr) : Prop := ∃ fp ∈ w.P, a ∈ fp
abbrev Wd.env (w : Wd) (K : PySem.W.Frag) (C : Nat → Addr) : Nv := ⟨K, C, w.F, w.R⟩

/-- an own list at a -/
def OwnL (N : Nv) (H : Hp) (a : Addr) (ds : List D) : Prop := ∃ vs, H a = some (.lst vs) ∧ ds.length ≤ sizeLine ∧ RepA N vs ds
/-- a field: a value, or an own list -/
def FlOk (N : Nv) (H : Hp) (fp : List Addr) (v : V) : Fl → Prop
  | .val d => fp = [] ∧ Rep N v d
  | .own ds => ∃ a, fp = [a] ∧ v = .ref a ∧ OwnL N H a ds
inductive FlsOk (N : Nv) (H : Hp) : List Addr → List (Str × V) → List (Str × Fl) → Prop
  | nil : FlsOk N H [] [] []
  | cons {fp fq : List Addr} {x : Str} {v : V} {f : Fl} {vs : List (Str × V)} {fs : List (Str × Fl)} : FlOk N H fp v f → FlsOk N H fq vs fs → FlsOk N H (fp ++ fq) ((x, v) :: vs) ((x, f) :: fs)
def ObOk (N : Nv) (H : Hp) (fp : List Addr) : Ob → Prop
  | .lst ds => ∃ a, fp = [a] ∧ OwnL N H a ds
  | .dct kvs => ∃ a fq vs, fp = a :: fq ∧ H a = some (.dK (vs.map fun p => (Sum.inr p.1, p.2))) ∧ kvs.length ≤ 1000 ∧ FlsOk N H fq vs kvs
  | .ins c fs => ∃ a dx fq vs, fp = a :: dx :: fq ∧ H a = some (.ins (N.C c) dx vs) ∧ H dx = some (.own a) ∧ fs.length ≤ 900 ∧ FlsOk N H fq vs fs

abbrev Sto := List Ob
structure Ok (K : PySem.W.Frag) (C : Nat → Addr) (w : Wd) (st : Sto) (H : Hp) : Prop where
  sub : ∀ a o, w.F a = some o → H a = some o
  dj : ∀ a, w.In a → w.F a = none
  nd : ∀ fp ∈ w.P, fp.Nodup
  ndd : ∀ (i j : Nat) (fp fq : List Addr) (a : Addr), w.P[i]? = some fp → w.P[j]? = some fq → a ∈ fp → a ∈ fq → i = j
  len : w.P.length = st.length
  obs : ∀ (i : Nat) (fp : List Addr) (o : Ob), w.P[i]? = some fp → st[i]? = some o → ObOk (w.env K C) H fp o

structure Grow (w : Wd) (H : Hp) (w' : Wd) (H' : Hp) : Prop where
  ext : ∀ a o, w.F a = some o → w'.F a = some o
  newF : ∀ a o, w'.F a = some o → w.F a = some o ∨ H a = none ∨ ∃ xs, o = .tup xs
  newP : ∀ a, w'.In a → w.In a ∨ H a = none
  keep : ∀ a o, H a = some o → ¬ w.In a → H' a = some o
  mono : ∀ a, H' a = none → H a = none
  pre : ∀ (i : Nat) (a : Addr), w.R[i]? = some a → w'.R[i]? = some a
theorem Grow.refl (w : Wd) (H : Hp) : Grow w H w H := ⟨fun _ _ h => h, fun _ _ h => .inl h, fun _ h => .inl h, fun _ _ h _ => h, fun _ h => h, fun _ _ h => h⟩
theorem Grow.trans {w w1 w2 : Wd} {H H1 H2 : Hp} (a : Grow w H w1 H1) (b : Grow w1 H1 w2 H2) : Grow w H w2 H2 where
  ext := fun x o h => b.ext x o (a.ext x o h)
  newF := fun x o h => (b.newF x o h).elim (fun q => a.newF x o q) fun q => q.elim (fun q => .inr (.inl (a.mono x q))) fun q => .inr (.inr q)
  newP := fun x h => (b.newP x h).elim (fun q => a.newP x q) fun q => .inr (a.mono x q)
  keep := fun x o h n => b.keep x o (a.keep x o h n) fun q => (a.newP x q).elim n fun z => by rw [h] at z; cases z
  mono := fun x h => a.mono x (b.mono x h)
  pre := fun i x h => b.pre i x (a.pre i x h)
theorem Grow.le {w w1 : Wd} {H H1 : Hp} (g : Grow w H w1 H1) (K : PySem.W.Frag) (C : Nat → Addr) : (w.env K C).le (w1.env K C) := ⟨rfl, rfl, g.ext, g.pre⟩

theorem OwnL.le {N N' : Nv} {H H' : Hp} {a : Addr} {ds : List D} (e : N.le N') (k : ∀ o, H a = some o → H' a = some o) (h : OwnL N H a ds) : OwnL N' H' a ds := by
  obtain ⟨vs, h1, z, r⟩ := h
  exact ⟨vs, k _ h1, z, r.le e⟩
theorem FlOk.le {N N' : Nv} {H H' : Hp} {fp : List Addr} {v : V} {f : Fl} (e : N.le N') (k : ∀ a ∈ fp, ∀ o, H a = some o → H' a = some o) (h : FlOk N H fp v f) : FlOk N' H' fp v f := by
  cases f with
  | val d => exact ⟨h.1, h.2.le e⟩
  | own ds =>
    obtain ⟨a, rfl, rfl, h⟩ := h
    exact ⟨a, rfl, rfl, h.le e (k a (by simp))⟩
theorem FlsOk.le {N N' : Nv} {H H' : Hp} {fp : List Addr} {vs : List (Str × V)} {fs : List (Str × Fl)} (e : N.le N') (h : FlsOk N H fp vs fs) (k : ∀ a ∈ fp, ∀ o, H a = some o → H' a = some o) : FlsOk N' H' fp vs fs := by
  induction h with
  | nil => exact .nil
  | cons h q ih => exact .cons (h.le e fun a ha => k a (List.mem_append_left _ ha)) (ih fun a ha => k a (List.mem_append_right _ ha))
theorem ObOk.le {N N' : Nv} {H H' : Hp} {fp : List Addr} {o : Ob} (e : N.le N') (k : ∀ a ∈ fp, ∀ o, H a = some o → H' a = some o) (h : ObOk N H fp o) : ObOk N' H' fp o := by
  cases o with
  | lst ds =>
    obtain ⟨a, rfl, h⟩ := h
    exact ⟨a, rfl, h.le e (k a (by simp))⟩
  | dct kvs =>
    obtain ⟨a, fq, vs, rfl, h1, z, h⟩ := h
    exact ⟨a, fq, vs, rfl, k a (by simp) _ h1, z, h.le e fun b hb => k b (by simp [hb])⟩
  | ins c fs =>
    obtain ⟨a, dx, fq, vs, rfl, h1, h2, z, h⟩ := h
    exact ⟨a, dx, fq, vs, rfl, k a (by simp) _ (by rw [← e.C]; exact h1), k dx (by simp) _ h2, z, h.le e fun b hb => k b (by simp [hb])⟩
/-- every address of a shared object is tracked -/
theorem FlsOk.there {N : Nv} {H : Hp} {fp : List Addr} {vs : List (Str × V)} {fs : List (Str × Fl)} (h : FlsOk N H fp vs fs) : ∀ a ∈ fp, ∃ u, H a = some u := by
  induction h with
  | nil => intro a ha; simp at ha
  | @cons fp fq x v f vs fs h q ih =>
    intro a ha
    rcases List.mem_append.mp ha with ha | ha
    · cases f with
      | val d => rw [h.1] at ha; simp at ha
      | own ds =>
        obtain ⟨b, rfl, _, vs, e, _⟩ := h
        have : a = b := by simpa using ha
        subst this
        exact ⟨_, e⟩
    · exact ih a ha
theorem ObOk.there {N : Nv} {H : Hp} {fp : List Addr} {o : Ob} (h : ObOk N H fp o) : ∀ a ∈ fp, ∃ u, H a = some u := by
  intro a ha
  cases o with
  | lst ds =>
    obtain ⟨b, rfl, vs, e, _⟩ := h
    have : a = b := by simpa using ha
    subst this
    exact ⟨_, e⟩
  | dct kvs =>
    obtain ⟨b, fq, vs, rfl, h1, z, h⟩ := h
    rcases List.mem_cons.mp ha with rfl | ha
    · exact ⟨_, h1⟩
    · exact h.there a ha
  | ins c fs =>
    obtain ⟨b, dx, fq, vs, rfl, h1, h2, z, h⟩ := h
    rcases List.mem_cons.mp ha with rfl | ha
    · exact ⟨_, h1⟩
    · rcases List.mem_cons.mp ha with rfl | ha
      · exact ⟨_, h2⟩
      · exact h.there a ha
section
variable {K : PySem.W.Frag} {C : Nat → Addr} {w : Wd} {st : Sto} {H : Hp}
theorem Ok.tracked (k : Ok K C w st H) {a : Addr} (h : w.In a) : ∃ u, H a = some u := by
  obtain ⟨fp, hf, ha⟩ := h
  obtain ⟨i, hi, e⟩ := List.getElem_of_mem hf
  have hi' : i < st.length := by rw [← k.len]; exact hi
  exact (k.obs i fp st[i] (by rw [List.getElem?_eq_getElem hi, e]) (by simp [hi'])).there a ha
/-- a new object is laid, frozen at once -/
def Wd.fz (w : Wd) (p : Addr) (o : HO) : Wd := ⟨upd w.F p o, w.P⟩
theorem Grow.fz (k : Ok K C w st H) {p : Addr} {o : HO} (hp : H p = none) : Grow w H (w.fz p o) (upd H p o) where
  ext := fun a u h => by
    show upd w.F p o a = some u
    rw [upd_ne (ne_of_none (k.sub a u h) hp)]; exact h
  newF := fun a u h => by
    by_cases e : a = p
    · right; left; rw [e]; exact hp
    · left
      have h' : upd w.F p o a = some u := h
      rw [upd_ne e] at h'; exact h'
  newP := fun a h => .inl h
  keep := fun a u h _ => by rw [upd_ne (ne_of_none h hp)]; exact h
  mono := fun a h => by
    by_cases e : a = p
    · rw [e, upd_same] at h; cases h
    · rw [upd_ne e] at h; exact h
  pre := fun i a h => h
theorem Ok.fz (k : Ok K C w st H) {p : Addr} {o : HO} (hp : H p = none) : Ok K C (w.fz p o) st (upd H p o) where
  sub := fun a u h => by
    by_cases e : a = p
    · subst e
      have h' : upd w.F a o a = some u := h
      rw [upd_same] at h' ⊢; exact h'
    · have h' : upd w.F p o a = some u := h
      rw [upd_ne e] at h' ⊢; exact k.sub a u h'
  dj := fun a h => by
    obtain ⟨u, hu⟩ := k.tracked h
    show upd w.F p o a = none
    rw [upd_ne (ne_of_none hu hp)]; exact k.dj a h
  nd := k.nd
  ndd := k.ndd
  len := k.len
  obs := fun i fp ob h1 h2 => (k.obs i fp ob h1 h2).le ((Grow.fz k hp).le K C) fun a ha u hu => by rw [upd_ne (ne_of_none hu hp)]; exact hu
end

/-! ### slots -/
inductive Slot
  | emp
  | val (d : D)
  | own (ds : List D)
  | own2 (dss : List (List D))
  | dic (t : Bool) (kvs : List (D × D))
def SlotOk (N : Nv) (H : Hp) (fp : List Addr) (o : Option V) : Slot → Prop
  | .emp => fp = []
  | .val d => fp = [] ∧ ∃ v, o = some v ∧ Rep N v d
  | .own ds => ∃ a, fp = [a] ∧ o = some (.ref a) ∧ OwnL N H a ds
  | .own2 dss => ∃ a bs, fp = a :: bs ∧ o = some (.ref a) ∧ H a = some (.lst (bs.map V.ref)) ∧ bs.length = dss.length ∧ dss.length ≤ sizeLine ∧ bs.Nodup ∧ a ∉ bs ∧ ∀ (i : Nat) (b : Addr) (ds : List D), bs[i]? = some b → dss[i]? = some ds → OwnL N H b ds
  | .dic false kvs => ∃ a, fp = [a] ∧ o = some (.ref a) ∧ kvs.length ≤ sizeLine ∧ ∃ us, H a = some (.dK us) ∧ RepK N us kvs
  | .dic true kvs => ∃ a, fp = [a] ∧ o = some (.ref a) ∧ kvs.length ≤ sizeLine ∧ ∃ us, H a = some (.dT us) ∧ RepT N us kvs
theorem SlotOk.le {N N' : Nv} {H H' : Hp} {fp : List Addr} {v : Option V} {s : Slot} (e : N.le N') (k : ∀ a ∈ fp, ∀ o, H a = some o → H' a = some o) (h : SlotOk N H fp v s) : SlotOk N' H' fp v s := by
  cases s with
  | emp => exact h
  | val d =>
    obtain ⟨h1, v, h2, h3⟩ := h
    exact ⟨h1, v, h2, h3.le e⟩
  | own ds =>
    obtain ⟨a, rfl, h2, h⟩ := h
    exact ⟨a, rfl, h2, h.le e (k a (by simp))⟩
  | own2 dss =>
    obtain ⟨a, bs, rfl, h2, h3, h4, h5, h6, h7, h⟩ := h
    exact ⟨a, bs, rfl, h2, k a (by simp) _ h3, h4, h5, h6, h7, fun i b ds e1 e2 => (h i b ds e1 e2).le e (k b (by simp [List.mem_of_getElem? e1]))⟩
  | dic t kvs =>
    cases t <;> (obtain ⟨a, rfl, h2, z, us, q, r⟩ := h; exact ⟨a, rfl, h2, z, us, k a (by simp) _ q, r.le e⟩)
theorem SlotOk.there {N : Nv} {H : Hp} {fp : List Addr} {v : Option V} {s : Slot} (h : SlotOk N H fp v s) : ∀ a ∈ fp, ∃ u, H a = some u := by
  intro x hx
  cases s with
  | emp => rw [show fp = [] from h] at hx; simp at hx
  | val d => rw [h.1] at hx; simp at hx
  | own ds =>
    obtain ⟨a, rfl, h2, vs, q, _⟩ := h
    have : x = a := by simpa using hx
    subst this
    exact ⟨_, q⟩
  | own2 dss =>
    obtain ⟨a, bs, rfl, h2, h3, h4, h5, h6, h7, h⟩ := h
    rcases List.mem_cons.mp hx with rfl | hx
    · exact ⟨_, h3⟩
    · obtain ⟨i, hi, e⟩ := List.getElem_of_mem hx
      have hi' : i < dss.length := by rw [← h4]; exact hi
      obtain ⟨vs, q, _⟩ := h i x dss[i] (by rw [List.getElem?_eq_getElem hi, e]) (by simp [hi'])
      exact ⟨_, q⟩
  | dic t kvs =>
    cases t <;> (obtain ⟨a, rfl, h2, z, us, q, r⟩ := h; have : x = a := by simpa using hx
                 subst this; exact ⟨_, q⟩)

theorem SlotOk.notup {N : Nv} {H : Hp} {fp : List Addr} {v : Option V} {s : Slot} (h : SlotOk N H fp v s) : ∀ a ∈ fp, ∀ xs, H a ≠ some (.tup xs) := by
  intro x hx xs hc
  cases s with
  | emp => rw [show fp = [] from h] at hx; simp at hx
  | val d => rw [h.1] at hx; simp at hx
  | own ds =>
    obtain ⟨a, rfl, h2, vs, q, _⟩ := h
    have : x = a := by simpa using hx
    subst this
    rw [q] at hc; cases hc
  | own2 dss =>
    obtain ⟨a, bs, rfl, h2, h3, h4, h5, h6, h7, h⟩ := h
    rcases List.mem_cons.mp hx with rfl | hx
    · rw [h3] at hc; cases hc
    · obtain ⟨i, hi, e⟩ := List.getElem_of_mem hx
      have hi' : i < dss.length := by rw [← h4]; exact hi
      obtain ⟨vs, q, _⟩ := h i x dss[i] (by rw [List.getElem?_eq_getElem hi, e]) (by simp [hi'])
      rw [q] at hc; cases hc
  | dic t kvs =>
    cases t <;> (obtain ⟨a, rfl, h2, z, us, q, r⟩ := h; have : x = a := by simpa using hx
                 subst this; rw [q] at hc; cases hc)

abbrev Slots := List Slot
/-- the frame's slots stand for ρ; O i: the addresses that slot i alone knows -/
structure Rel (K : PySem.W.Frag) (C : Nat → Addr) (w : Wd) (st : Sto) (O : Nat → List Addr) (ρ : Slots) (σ : St) (H : Hp) : Prop where
  ok : Ok K C w st H
  len : σ.length = ρ.length
  slot : ∀ (i : Nat) (s : Slot), ρ[i]? = some s → ∃ v, σ[i]? = some v ∧ SlotOk (w.env K C) H (O i) v s
  out : ∀ i, ρ.length ≤ i → O i = []
  ofz : ∀ (i : Nat) (a : Addr), a ∈ O i → w.F a = none ∧ ¬ w.In a
  dj : ∀ (i j : Nat) (a : Addr), a ∈ O i → a ∈ O j → i = j
section
variable {K : PySem.W.Frag} {C : Nat → Addr} {w w' : Wd} {st st' : Sto} {O : Nat → List Addr} {ρ : Slots} {σ : St} {H H' : Hp}
theorem Rel.there (r : Rel K C w st O ρ σ H) {i : Nat} {a : Addr} (h : a ∈ O i) : ∃ u, H a = some u := by
  by_cases hi : i < ρ.length
  · obtain ⟨v, _, s⟩ := r.slot i ρ[i] (by simp [hi])
    exact s.there a h
  · rw [r.out i (by omega)] at h; simp at h
theorem Rel.notup (r : Rel K C w st O ρ σ H) {i : Nat} {a : Addr} (h : a ∈ O i) : ∀ xs, H a ≠ some (.tup xs) := by
  by_cases hi : i < ρ.length
  · obtain ⟨v, _, s⟩ := r.slot i ρ[i] (by simp [hi])
    exact s.notup a h
  · rw [r.out i (by omega)] at h; simp at h
theorem Rel.grow (r : Rel K C w st O ρ σ H) (g : Grow w H w' H') (k : Ok K C w' st' H') : Rel K C w' st' O ρ σ H' where
  ok := k
  len := r.len
  slot := fun i s h => by
    obtain ⟨v, e, q⟩ := r.slot i s h
    exact ⟨v, e, q.le (g.le K C) fun a ha o ho => g.keep a o ho (r.ofz i a ha).2⟩
  out := r.out
  ofz := fun i a h => by
    obtain ⟨u, hu⟩ := r.there h
    obtain ⟨h1, h2⟩ := r.ofz i a h
    refine ⟨?_, fun q => ?_⟩
    · cases e : w'.F a with
      | none => rfl
      | some o =>
        rcases g.newF a o e with z | z | ⟨xs, z⟩
        · rw [h1] at z; cases z
        · rw [hu] at z; cases z
        · subst z
          have k1 := k.sub a _ e
          rw [g.keep a u hu h2] at k1
          cases k1
          exact absurd hu (r.notup h _)
    · rcases g.newP a q with z | z
      · exact h2 z
      · rw [hu] at z; cases z
  dj := r.dj
end
end BF

/-! BF1: outcomes, what an expression, a test, arguments are worth. -/
namespace BF
open PySem L2

inductive EO (α : Type)
  | ok (a : α) (st : Sto)
  | err (c : Nat) (st : Sto)
  | bad
def EO.bnd {α β : Type} (x : EO α) (f : α → Sto → EO β) : EO β := match x with
  | .ok a st => f a st
  | .err c st => .err c st
  | .bad => .bad
@[simp] theorem EO.bnd_ok {α β : Type} (a : α) (st : Sto) (f : α → Sto → EO β) : (EO.ok a st).bnd f = f a st := rfl
@[simp] theorem EO.bnd_err {α β : Type} (c : Nat) (st : Sto) (f : α → Sto → EO β) : (EO.err c st : EO α).bnd f = .err c st := rfl
@[simp] theorem EO.bnd_bad {α β : Type} (f : α → Sto → EO β) : (EO.bad : EO α).bnd f = .bad := rfl
def EO.ofO {α : Type} (o : Option α) (st : Sto) : EO α := match o with
  | some a => .ok a st
  | none => .bad
@[simp] theorem EO.ofO_some {α : Type} (a : α) (st : Sto) : EO.ofO (some a) st = .ok a st := rfl
@[simp] theorem EO.ofO_none {α : Type} (st : Sto) : EO.ofO (none : Option α) st = .bad := rfl
abbrev XF (α : Type) := Slots → Sto → EO α
abbrev EF := XF D
abbrev TF := XF Bool
abbrev AF := XF (List D)

section
variable (K : PySem.W.Frag) (C : Nat → Addr) (W : WX)
def Out (w : Wd) (σ : St) (H : Hp) {α : Type} (o : EO α) (k : Wd → Hp → α → Sto → Prop) : Prop := match o with
  | .ok a st => ∀ w' H', Grow w H w' H' → Ok K C w' st H' → k w' H' a st
  | .err c st => ∀ w' H', Grow w H w' H' → Ok K C w' st H' → W (.ref (C c)) none σ H'
  | .bad => False
/-- the reading of an expression worth f -/
def tE (f : EF) : TE := fun σ H Q => ∃ w st O ρ, Rel K C w st O ρ σ H ∧ Out K C W w σ H (f ρ st) fun w' H' d _ => ∀ v, Rep (w'.env K C) v d → Q v H'
def tT (f : TF) : TT := fun σ H Q => ∃ w st O ρ, Rel K C w st O ρ σ H ∧ Out K C W w σ H (f ρ st) fun _ H' b _ => Q b H'
def tA (f : AF) : TA := fun σ H Q => ∃ w st O ρ, Rel K C w st O ρ σ H ∧ Out K C W w σ H (f ρ st) fun w' H' ds _ => ∀ vs, RepA (w'.env K C) vs ds → Q vs H'
/-- a list made anew -/
def tL (f : AF) : TE := fun σ H Q => ∃ w st O ρ, Rel K C w st O ρ σ H ∧ Out K C W w σ H (f ρ st) fun w' H' ds _ =>
  ∀ p vs, H p = none → w'.F p = none → ¬ w'.In p → H' p = some (.lst vs) → ds.length ≤ sizeLine → RepA (w'.env K C) vs ds → Q (.ref p) H'
end
section
variable {K : PySem.W.Frag} {C : Nat → Addr} {W : WX} {w : Wd} {σ : St} {H : Hp}
theorem Out.mono {α : Type} {o : EO α} {k k' : Wd → Hp → α → Sto → Prop} (h : Out K C W w σ H o k) (m : ∀ w' H' a st, Grow w H w' H' → Ok K C w' st H' → k w' H' a st → k' w' H' a st) : Out K C W w σ H o k' := by
  cases o with
  | ok a st => exact fun w' H' g q => m w' H' a st g q (h w' H' g q)
  | err c st => exact h
  | bad => exact h
theorem Out.bnd {α β : Type} {x : EO α} {f : α → Sto → EO β} {k : Wd → Hp → β → Sto → Prop} (h : Out K C W w σ H (x.bnd f) k) : Out K C W w σ H x fun w' H' a st => Out K C W w' σ H' (f a st) k := by
  cases x with
  | ok a st =>
    intro w1 H1 g1 q1
    have h' : Out K C W w σ H (f a st) k := h
    show Out K C W w1 σ H1 (f a st) k
    revert h'
    cases f a st with
    | ok b st2 => exact fun h' w2 H2 g2 q2 => h' w2 H2 (g1.trans g2) q2
    | err c st2 => exact fun h' w2 H2 g2 q2 => h' w2 H2 (g1.trans g2) q2
    | bad => exact fun h' => h'
  | err c st => exact h
  | bad => exact h
/-- where it is at once -/
theorem Out.here {α : Type} {a : α} {st : Sto} {k : Wd → Hp → α → Sto → Prop} (h : Out K C W w σ H (.ok a st) k) (q : Ok K C w st H) : k w H a st := h w H (.refl w H) q
end

theorem PE.imp {X : Cx} {e : Expr} {t t' : TE} (h : PE X e t) (k : ∀ σ H Q, t' σ H Q → t σ H Q) : PE X e t' := ⟨fun pins s σ H Q I q => h.run pins s σ H Q I (k σ H Q q)⟩
theorem PT.imp {X : Cx} {e : Expr} {t t' : TT} (h : PT X e t) (k : ∀ σ H Q, t' σ H Q → t σ H Q) : PT X e t' := ⟨fun pins s σ H Q I q => h.run pins s σ H Q I (k σ H Q q)⟩
theorem PW.imp {X : Cx} {e : Expr} {t t' : TT} (h : PW X e t) (k : ∀ σ H Q, t' σ H Q → t σ H Q) : PW X e t' := ⟨fun wh pins s σ H Q I q => h.run wh pins s σ H Q I (k σ H Q q)⟩
theorem PA.imp {X : Cx} {e : List Expr} {t t' : TA} (h : PA X e t) (k : ∀ σ H Q, t' σ H Q → t σ H Q) : PA X e t' := ⟨fun pos pins s σ H Q I q => h.run pos pins s σ H Q I (k σ H Q q)⟩

/-- what the rules lean on: quiet, room for k levels, exceptions are let through -/
structure G (X : Cx) (C : Nat → Addr) (W : WX) (k : Nat) : Prop where
  calm : X.calm = true
  nd : X.N.Nodup
  room : Room k X.A
  tk : Takes X W
  own : PassesOwn (model X.prog X.w) X.A X.env X.xe
theorem G.pass {X : Cx} {C : Nat → Addr} {W : WX} {k : Nat} (g : G X C W k) (σ : St) : PassesAt (L2.CX X.prog X.w) X σ (fun cls d H => W cls d σ H) := passAt g.tk σ

section
variable (X : Cx) (C : Nat → Addr) (W : WX)
def DE (f : EF) (e : Expr) : Prop := PE X e (tE X.K C W f)
def DT (f : TF) (e : Expr) : Prop := PT X e (tT X.K C W f)
def DW (f : TF) (e : Expr) : Prop := PW X e (tT X.K C W f)
def DA (f : AF) (es : List Expr) : Prop := PA X es (tA X.K C W f)
def DL (f : AF) (e : Expr) : Prop := PE X e (tL X.K C W f)
end

/-! ### names, constants -/
def eVar (i : Nat) : EF := fun ρ st => match ρ[i]? with
  | some (.val d) => .ok d st
  | _ => .bad
def eC (d : D) : EF := fun _ st => .ok d st
section
variable {X : Cx} {C : Nat → Addr} {W : WX} {k : Nat}
theorem de_var (i : Nat) {x : Str} {pos : Pos} (hN : X.N[i]? = some x := by rfl) (hv : Vis X.env.scope x := by first | exact Or.inl rfl | exact Or.inr (Or.inl rfl) | exact Or.inr (Or.inr rfl))
    (hd : (x == ("__debug__" : Str)) = false := by decide) (hcd : (x == ("__classdict__" : Str)) = false := by decide) : DE X C W (eVar i) (.Name x pos) := by
  refine PE.imp (pe_var hN hv hd hcd) fun σ H Q h => ?_
  obtain ⟨w, st, O, ρ, r, h⟩ := h
  unfold eVar at h
  cases e : ρ[i]? with
  | none => rw [e] at h; exact h.elim
  | some s =>
    rw [e] at h
    cases s with
    | val d =>
      obtain ⟨v, e1, _, v', e2, rv⟩ := r.slot i _ e
      subst e2
      exact ⟨v', e1, Out.here h r.ok v' rv⟩
    | _ => exact h.elim
theorem de_const {d : D} {v : V} {e : Expr} (h : PE X e (tC v)) (hr : ∀ N, Rep N v d) : DE X C W (eC d) e := by
  refine PE.imp h fun σ H Q h => ?_
  obtain ⟨w, st, O, ρ, r, h⟩ := h
  exact Out.here h r.ok v (hr _)
theorem de_int {i : Int} {j pos} : DE X C W (eC (.int i)) (.Constant (.int i) j pos) := de_const pe_int fun _ => .int i
theorem de_str {x : Str} {j pos} : DE X C W (eC (.str x)) (.Constant (.str x) j pos) := de_const pe_str fun _ => .str x
theorem de_bool {b : Bool} {j pos} : DE X C W (eC (.bool b)) (.Constant (.bool b) j pos) := de_const pe_bl fun _ => .bl b
theorem de_none {j pos} : DE X C W (eC .none) (.Constant .none j pos) := de_const pe_non fun _ => .non
/-- a module's constant -/
theorem de_gint {x : Str} {i : Int} {pos : Pos} (hm : ∃ t, X.mg x = some (.int i t)) (hg : Gl X x := by rfl) (hd : (x == ("__debug__" : Str)) = false := by decide) : DE X C W (eC (.int i)) (.Name x pos) := by
  obtain ⟨t, hm⟩ := hm
  exact de_const (pe_glob (v := .int i) hg hm ⟨t, rfl⟩ hd) fun _ => .int i
theorem de_gstr {x : Str} {z : Str} {pos : Pos} (hm : ∃ t, X.mg x = some (.str z t)) (hg : Gl X x := by rfl) (hd : (x == ("__debug__" : Str)) = false := by decide) : DE X C W (eC (.str z)) (.Name x pos) := by
  obtain ⟨t, hm⟩ := hm
  exact de_const (pe_glob (v := .str z) hg hm ⟨t, rfl⟩ hd) fun _ => .str z
end

/-! ### operators on values -/
def lift1 (g : D → Option D) (fa : EF) : EF := fun ρ st => (fa ρ st).bnd fun x st => .ofO (g x) st
def lift2 (g : D → D → Option D) (fa fb : EF) : EF := fun ρ st => (fa ρ st).bnd fun x st => (fb ρ st).bnd fun y st => .ofO (g x y) st
def liftT (g : D → D → Option Bool) (fa fb : EF) : TF := fun ρ st => (fa ρ st).bnd fun x st => (fb ρ st).bnd fun y st => .ofO (g x y) st
def tv (t : TF) : EF := fun ρ st => (t ρ st).bnd fun b st => .ok (.bool b) st
/-- what comes behind a value -/
abbrev Beh (K : PySem.W.Frag) (C : Nat → Addr) (w : Wd) (st : Sto) (H : Hp) (d : D) (Q : VK) : Prop := ∀ z w' H', Grow w H w' H' → Ok K C w' st H' → Rep (w'.env K C) z d → Q z H'
def Op1 (K : PySem.W.Frag) (C : Nat → Addr) (r : V → Hp → VK → Prop) (g : D → Option D) : Prop :=
  ∀ w st H v x d Q, Ok K C w st H → Rep (w.env K C) v x → g x = some d → Beh K C w st H d Q → r v H Q
def Op2 (K : PySem.W.Frag) (C : Nat → Addr) (r : R2) (g : D → D → Option D) : Prop :=
  ∀ w st H v u x y d Q, Ok K C w st H → Rep (w.env K C) v x → Rep (w.env K C) u y → g x y = some d → Beh K C w st H d Q → r v u H Q
/-- a comparison: the answer a truth value -/
def Cm2 (K : PySem.W.Frag) (C : Nat → Addr) (r : R2) (g : D → D → Option Bool) : Prop :=
  ∀ w st H v u x y b (Q : VK), Ok K C w st H → Rep (w.env K C) v x → Rep (w.env K C) u y → g x y = some b → Q (.bl b) H → r v u H Q
section
variable {K : PySem.W.Frag} {C : Nat → Addr} {W : WX}
theorem Op2.or {r r' : R2} {g g' : D → D → Option D} (a : Op2 K C r g) (b : Op2 K C r' g') : Op2 K C (fun x y H Q => r x y H Q ∨ r' x y H Q) (fun x y => (g x y).orElse fun _ => g' x y) := by
  intro w st H v u x y d Q k rv ru e q
  cases h : g x y with
  | some z =>
    have e' : some z = some d := by simp only [h] at e; exact e
    exact .inl (a w st H v u x y d Q k rv ru (by rw [h]; exact e') q)
  | none =>
    have e' : g' x y = some d := by simp only [h] at e; exact e
    exact .inr (b w st H v u x y d Q k rv ru e' q)
theorem Cm2.or {r r' : R2} {g g' : D → D → Option Bool} (a : Cm2 K C r g) (b : Cm2 K C r' g') : Cm2 K C (fun x y H Q => r x y H Q ∨ r' x y H Q) (fun x y => (g x y).orElse fun _ => g' x y) := by
  intro w st H v u x y d Q k rv ru e q
  cases h : g x y with
  | some z =>
    have e' : some z = some d := by simp only [h] at e; exact e
    exact .inl (a w st H v u x y d Q k rv ru (by rw [h]; exact e') q)
  | none =>
    have e' : g' x y = some d := by simp only [h] at e; exact e
    exact .inr (b w st H v u x y d Q k rv ru e' q)
theorem Op1.or {r r' : V → Hp → VK → Prop} {g g' : D → Option D} (a : Op1 K C r g) (b : Op1 K C r' g') : Op1 K C (fun x H Q => r x H Q ∨ r' x H Q) (fun x => (g x).orElse fun _ => g' x) := by
  intro w st H v x d Q k rv e q
  cases h : g x with
  | some z =>
    have e' : some z = some d := by simp only [h] at e; exact e
    exact .inl (a w st H v x d Q k rv (by rw [h]; exact e') q)
  | none =>
    have e' : g' x = some d := by simp only [h] at e; exact e
    exact .inr (b w st H v x d Q k rv e' q)
theorem two_op {r : R2} {g : D → D → Option D} {fa fb : EF} (hs : Op2 K C r g) {σ : St} {H : Hp} {Q : VK} (h : tE K C W (lift2 g fa fb) σ H Q) : tOp r (tE K C W fa) (tE K C W fb) σ H Q := by
  obtain ⟨w, st, O, ρ, rel, h⟩ := h
  refine ⟨w, st, O, ρ, rel, (Out.bnd h).mono fun w1 H1 x st1 g1 k1 h1 v rv => ?_⟩
  refine ⟨w1, st1, O, ρ, rel.grow g1 k1, (Out.bnd h1).mono fun w2 H2 y st2 g2 k2 h2 u ru => ?_⟩
  revert h2
  cases e : g x y with
  | none => exact fun h2 => h2.elim
  | some d => exact fun h2 => hs w2 st2 H2 v u x y d Q k2 (rv.le (g2.le K C)) ru e fun z w3 H3 g3 k3 rz => h2 w3 H3 g3 k3 z rz
theorem one_op {r : V → Hp → VK → Prop} {g : D → Option D} {fa : EF} (hs : Op1 K C r g) {σ : St} {H : Hp} {Q : VK} (h : tE K C W (lift1 g fa) σ H Q) : tUn r (tE K C W fa) σ H Q := by
  obtain ⟨w, st, O, ρ, rel, h⟩ := h
  refine ⟨w, st, O, ρ, rel, (Out.bnd h).mono fun w1 H1 x st1 g1 k1 h1 v rv => ?_⟩
  revert h1
  cases e : g x with
  | none => exact fun h2 => h2.elim
  | some d => exact fun h2 => hs w1 st1 H1 v x d Q k1 rv e fun z w3 H3 g3 k3 rz => h2 w3 H3 g3 k3 z rz
theorem two_cm {r : R2} {g : D → D → Option Bool} {fa fb : EF} (hs : Cm2 K C r g) {σ : St} {H : Hp} {Q : Bool → Hp → Prop} (h : tT K C W (liftT g fa fb) σ H Q) : tOp r (tE K C W fa) (tE K C W fb) σ H (fun x H' => ∃ b, x = .bl b ∧ Q b H') := by
  obtain ⟨w, st, O, ρ, rel, h⟩ := h
  refine ⟨w, st, O, ρ, rel, (Out.bnd h).mono fun w1 H1 x st1 g1 k1 h1 v rv => ?_⟩
  refine ⟨w1, st1, O, ρ, rel.grow g1 k1, (Out.bnd h1).mono fun w2 H2 y st2 g2 k2 h2 u ru => ?_⟩
  revert h2
  cases e : g x y with
  | none => exact fun h2 => h2.elim
  | some d => exact fun h2 => hs w2 st2 H2 v u x y d _ k2 (rv.le (g2.le K C)) ru e ⟨d, rfl, Out.here h2 k2⟩
theorem two_cmV {r : R2} {g : D → D → Option Bool} {fa fb : EF} (hs : Cm2 K C r g) {σ : St} {H : Hp} {Q : VK} (h : tE K C W (tv (liftT g fa fb)) σ H Q) : tOp r (tE K C W fa) (tE K C W fb) σ H Q := by
  obtain ⟨w, st, O, ρ, rel, h⟩ := h
  refine ⟨w, st, O, ρ, rel, (Out.bnd (Out.bnd h)).mono fun w1 H1 x st1 g1 k1 h1 v rv => ?_⟩
  refine ⟨w1, st1, O, ρ, rel.grow g1 k1, (Out.bnd h1).mono fun w2 H2 y st2 g2 k2 h2 u ru => ?_⟩
  revert h2
  cases e : g x y with
  | none => exact fun h2 => h2.elim
  | some d => exact fun h2 => hs w2 st2 H2 v u x y d _ k2 (rv.le (g2.le K C)) ru e (Out.here (Out.here h2 k2) k2 _ (.bl d))
theorem tv_imp {f : TF} {σ : St} {H : Hp} {Q : VK} (h : tE K C W (tv f) σ H Q) : tT K C W f σ H (fun b H' => Q (.bl b) H') := by
  obtain ⟨w, st, O, ρ, rel, h⟩ := h
  refine ⟨w, st, O, ρ, rel, (Out.bnd h).mono fun w1 H1 x st1 g1 k1 h1 => Out.here h1 k1 (.bl x) (.bl x)⟩
end
section
variable {X : Cx} {C : Nat → Addr} {W : WX} {a b e c : Expr} {fa fb fc : EF} {pos : Pos}
theorem de_op {op : Operator} {r : R2} {g : D → D → Option D} (ho : OpR X (binaryOp op) r) (hs : Op2 X.K C r g) (ha : DE X C W fa a) (hb : DE X C W fb b) : DE X C W (lift2 g fa fb) (.BinOp a op b pos) :=
  PE.imp (pe_op ho ha hb) fun _ _ _ h => two_op hs h
theorem de_un {op : UnaryOp} {r : V → Hp → VK → Prop} {g : D → Option D} (ho : UnR X (unaryOp op) r) (hs : Op1 X.K C r g) (ha : DE X C W fa a) : DE X C W (lift1 g fa) (.UnaryOp op a pos) :=
  PE.imp (pe_un ho ha) fun _ _ _ h => one_op hs h
/-- a comparison, as a value, as a test -/
theorem de_cm {op : CmpOp} {r : R2} {g : D → D → Option Bool} (ho : OpR X (compareOp op) r) (hs : Cm2 X.K C r g) (ha : DE X C W fa a) (hb : DE X C W fb b) (hm : behindInMarks op b = false := by first | exact nomark _ (by decide) (by decide) | rfl) :
    DE X C W (tv (liftT g fa fb)) (.Compare a [op] [b] pos) := PE.imp (pe_cmpR ho ha hb hm) fun _ _ _ h => two_cmV hs h
theorem dt_cm {op : CmpOp} {r : R2} {g : D → D → Option Bool} (ho : OpR X (compareOp op) r) (hs : Cm2 X.K C r g) (ha : DE X C W fa a) (hb : DE X C W fb b) (hm : behindInMarks op b = false := by first | exact nomark _ (by decide) (by decide) | rfl) :
    DT X C W (liftT g fa fb) (.Compare a [op] [b] pos) := PT.imp (pt_cmpR ho ha hb hm) fun _ _ _ h => two_cm hs h
end
end BF

/-! BF2: operators on data. -/
namespace BF
open PySem L2

/-! ### what stands for plain data -/
section
variable {N : Nv} {H : Hp}
mutual
theorem Rep.dp (sub : ∀ a o, N.F a = some o → H a = some o) : ∀ {v : V} {d : D}, Rep N v d → d.canLay0 = true → Dp N.K H v d
  | _, _, .non, _ => .non
  | _, _, .bl b, _ => .bl b
  | _, _, .int i, _ => .int i
  | _, _, .str x, _ => .str x
  | _, _, .lst h z r, c => .lst (SqL.of (sub _ _ h)) (r.dp sub (by simpa [PyData.canLay0] using c))
  | _, _, .tup h z r, c => .tup (SqT.of (sub _ _ h)) (r.dp sub (by simpa [PyData.canLay0] using c))
  | _, _, .ob h, c => by simp [PyData.canLay0] at c
  | _, _, .ex h, c => by simp [PyData.canLay0] at c
  | _, _, .scr h, c => by simp [PyData.canLay0] at c
  | _, _, .dK h z r, c => by simp [PyData.canLay0] at c
  | _, _, .dT h z r, c => by simp [PyData.canLay0] at c
theorem RepA.dp (sub : ∀ a o, N.F a = some o → H a = some o) : ∀ {vs : List V} {ds : List D}, RepA N vs ds → PyData.canLayAll0 ds = true → DpAll N.K H vs ds
  | _, _, .nil, _ => .nil
  | _, _, .cons h r, c => by
    simp only [PyData.canLayAll0, Bool.and_eq_true] at c
    exact .cons (h.dp sub c.1) (r.dp sub c.2)
end
end
theorem Rep.inI {N : Nv} {v : V} {i : Int} (r : Rep N v (.int i)) : v = .int i := by cases r; rfl
theorem Rep.inS {N : Nv} {v : V} {i : Str} (r : Rep N v (.str i)) : v = .str i := by cases r; rfl
theorem Rep.inB {N : Nv} {v : V} {i : Bool} (r : Rep N v (.bool i)) : v = .bl i := by cases r; rfl
theorem Rep.inN {N : Nv} {v : V} (r : Rep N v .none) : v = .non := by cases r; rfl
theorem Rep.inL {N : Nv} {v : V} {ds : List D} (r : Rep N v (.list ds)) : ∃ a vs, v = .ref a ∧ N.F a = some (.lst vs) ∧ ds.length ≤ sizeLine ∧ RepA N vs ds := by
  cases r with
  | lst h z r => exact ⟨_, _, rfl, h, z, r⟩
theorem Rep.inT {N : Nv} {v : V} {ds : List D} (r : Rep N v (.tuple ds)) : ∃ a vs, v = .ref a ∧ N.F a = some (.tup vs) ∧ ds.length ≤ sizeLine ∧ RepA N vs ds := by
  cases r with
  | tup h z r => exact ⟨_, _, rfl, h, z, r⟩

/-- a new tuple, a new list at p -/
theorem new_tup {K : PySem.W.Frag} {C : Nat → Addr} {w : Wd} {st : Sto} {H : Hp} {vs : List V} {ds : List D} {Q : VK} (k : Ok K C w st H) (r : RepA (w.env K C) vs ds) (z : ds.length ≤ sizeLine) (q : Beh K C w st H (.tuple ds) Q) {p : Addr} (hp : H p = none) :
    Q (.ref p) (upd H p (.tup vs)) := q _ (w.fz p (.tup vs)) _ (Grow.fz k hp) (Ok.fz k hp) (.tup (show upd w.F p _ p = _ from upd_same) z (r.le ((Grow.fz k hp).le K C)))
theorem new_lst {K : PySem.W.Frag} {C : Nat → Addr} {w : Wd} {st : Sto} {H : Hp} {vs : List V} {ds : List D} {Q : VK} (k : Ok K C w st H) (r : RepA (w.env K C) vs ds) (z : ds.length ≤ sizeLine) (q : Beh K C w st H (.list ds) Q) {p : Addr} (hp : H p = none) :
    Q (.ref p) (upd H p (.lst vs)) := q _ (w.fz p (.lst vs)) _ (Grow.fz k hp) (Ok.fz k hp) (.lst (show upd w.F p _ p = _ from upd_same) z (r.le ((Grow.fz k hp).le K C)))
theorem Beh.id {K : PySem.W.Frag} {C : Nat → Addr} {w : Wd} {st : Sto} {H : Hp} {d : D} {Q : VK} (q : Beh K C w st H d Q) (k : Ok K C w st H) {v : V} (r : Rep (w.env K C) v d) : Q v H := q v w H (.refl w H) k r

/-! ### ints -/
def gSub : D → D → Option D
  | .int i, .int j => some (.int (i - j))
  | _, _ => none
def gFdiv : D → D → Option D
  | .int i, .int j => if 0 < j ∧ j < 1073741824 then some (.int (i / j)) else none
  | _, _ => none
def gMod : D → D → Option D
  | .int i, .int j => if 0 < j then some (.int (i % j)) else none
  | _, _ => none
def gPow : D → D → Option D
  | .int i, .int j => if 0 ≤ j ∧ j ≤ 1000000 ∧ i.natAbs < 2 ^ 64 then some (.int (i ^ j.toNat)) else none
  | _, _ => none
def gNeg : D → Option D
  | .int i => some (.int (-i))
  | _ => none
def gAdd : D → D → Option D
  | .int i, .int j => some (.int (i + j))
  | .str x, .str y => if x.length + y.length ≤ sizeLine then some (.str (x ++ y)) else none
  | .list xs, .list ys => if xs.length + ys.length ≤ sizeLine then some (.list (xs ++ ys)) else none
  | .tuple xs, .tuple ys => if xs.length + ys.length ≤ sizeLine then some (.tuple (xs ++ ys)) else none
  | _, _ => none
section
variable {X : Cx} {K : PySem.W.Frag} {C : Nat → Addr}
abbrev rAdds (K : PySem.W.Frag) : R2 := fun x y H Q => (∃ i j, x = .int i ∧ y = .int j ∧ Q (.int (i + j)) H) ∨ (∃ i j, x = .str i ∧ y = .str j ∧ i.length + j.length ≤ sizeLine ∧ Q (.str (i ++ j)) H) ∨ rCat x y H Q ∨ rCatA K x y H Q
theorem or_add : OpR X (binaryOp .Add) (rAdds X.K) := OpR.or op_add (OpR.or op_add_str (OpR.or op_cat op_catA))
theorem os_add : Op2 K C (rAdds K) gAdd := by
  intro w st H v u x y d Q k rv ru e q
  cases x <;> cases y <;> simp only [gAdd, reduceCtorEq] at e
  case int.int i j =>
    cases rv.inI; cases ru.inI; cases e
    exact .inl ⟨i, j, rfl, rfl, q.id k (.int _)⟩
  case str.str i j =>
    cases rv.inS; cases ru.inS
    split at e
    · rename_i hz
      cases e
      exact .inr (.inl ⟨i, j, rfl, rfl, hz, q.id k (.str _)⟩)
    · cases e
  case list.list xs ys =>
    obtain ⟨a, vs, rfl, ha, za, ra⟩ := rv.inL
    obtain ⟨b, us, rfl, hb, zb, rb⟩ := ru.inL
    split at e
    · rename_i hz
      cases e
      refine .inr (.inr (.inl ⟨a, b, vs, us, rfl, rfl, k.sub _ _ ha, k.sub _ _ hb, by rw [ra.length, rb.length]; exact hz, fun p hp => ?_⟩))
      exact new_lst k (ra.append rb) (by simpa using hz) q hp
    · cases e
  case tuple.tuple xs ys =>
    obtain ⟨a, vs, rfl, ha, za, ra⟩ := rv.inT
    obtain ⟨b, us, rfl, hb, zb, rb⟩ := ru.inT
    split at e
    · rename_i hz
      cases e
      refine .inr (.inr (.inr ⟨a, b, vs, us, rfl, rfl, SqT.of (k.sub _ _ ha), SqT.of (k.sub _ _ hb), by rw [ra.length, rb.length]; exact hz, fun h0 => ?_, fun h0 h1 => ?_, fun _ _ p hp => ?_⟩))
      · subst h0
        cases ra
        exact q.id k (by simpa using Rep.tup hb zb rb)
      · subst h1
        cases rb
        exact q.id k (by simpa using Rep.tup ha za ra)
      · exact new_tup k (ra.append rb) (by simpa using hz) q hp
    · cases e
theorem os_sub : Op2 K C (rI0 fun i j => .int (i - j)) gSub := by
  intro w st H v u x y d Q k rv ru e q
  cases x <;> cases y <;> simp only [gSub, reduceCtorEq] at e
  rename_i i j
  cases rv.inI; cases ru.inI; cases e
  exact ⟨i, j, rfl, rfl, q.id k (.int _)⟩
theorem os_fdiv : Op2 K C (rI CDiv fun i j => .int (i / j)) gFdiv := by
  intro w st H v u x y d Q k rv ru e q
  cases x <;> cases y <;> simp only [gFdiv, reduceCtorEq] at e
  rename_i i j
  cases rv.inI; cases ru.inI
  split at e
  · rename_i hz
    cases e
    exact ⟨i, j, rfl, rfl, hz, q.id k (.int _)⟩
  · cases e
theorem os_mod : Op2 K C (rI (fun _ j => 0 < j) fun i j => .int (i % j)) gMod := by
  intro w st H v u x y d Q k rv ru e q
  cases x <;> cases y <;> simp only [gMod, reduceCtorEq] at e
  rename_i i j
  cases rv.inI; cases ru.inI
  split at e
  · rename_i hz
    cases e
    exact ⟨i, j, rfl, rfl, hz, q.id k (.int _)⟩
  · cases e
theorem os_pow : Op2 K C (rI CPow fun i j => .int (i ^ j.toNat)) gPow := by
  intro w st H v u x y d Q k rv ru e q
  cases x <;> cases y <;> simp only [gPow, reduceCtorEq] at e
  rename_i i j
  cases rv.inI; cases ru.inI
  split at e
  · rename_i hz
    cases e
    exact ⟨i, j, rfl, rfl, hz, q.id k (.int _)⟩
  · cases e
theorem os_neg : Op1 K C (rU fun i => .int (-i)) gNeg := by
  intro w st H v x d Q k rv e q
  cases x <;> simp only [gNeg, reduceCtorEq] at e
  rename_i i
  cases rv.inI; cases e
  exact ⟨i, rfl, q.id k (.int _)⟩
end

/-! ### comparisons -/
def gEq (x y : D) : Option Bool := if (SeqAt.shaped x && SeqAt.shaped y) = true then some (PyData.eqv x y) else none
def gNe (x y : D) : Option Bool := if (SeqAt.shaped x && SeqAt.shaped y) = true then some (!PyData.eqv x y) else none
def strLt (x y : Str) : Bool := decide (x.cps.toList < y.cps.toList)
def isIntss : List D → Option (List Int)
  | [] => some []
  | .int i :: r => (isIntss r).map (i :: ·)
  | _ :: _ => none
def gLt : D → D → Option Bool
  | .int i, .int j => some (decide (i < j))
  | .tuple xs, .tuple ys => match isIntss xs, isIntss ys with
    | some a, some b => some (HT.lexLt a b)
    | _, _ => none
  | _, _ => none
def gLe : D → D → Option Bool
  | .int i, .int j => some (decide (i ≤ j))
  | _, _ => none
def gGt : D → D → Option Bool
  | .int i, .int j => some (decide (j < i))
  | _, _ => none
def gGe : D → D → Option Bool
  | .int i, .int j => some (decide (j ≤ i))
  | _, _ => none
def isNo : D → Bool
  | .none => true
  | _ => false
def gIsN : D → D → Option Bool
  | x, .none => some (isNo x)
  | _, _ => none
def gNotN : D → D → Option Bool
  | x, .none => some (!isNo x)
  | _, _ => none
/-- a text in a text -/
def strIn (x y : Str) : Bool := !(Builtin.Str.occurrences y x 0 y.length 1).isEmpty
def gIn : D → D → Option Bool
  | .str x, .str y => some (strIn x y)
  | d, .list ds => if (SeqAt.shaped d && SeqAt.shaped (.list ds)) = true then some (ds.any fun z => PyData.eqv z d) else none
  | d, .tuple ds => if (SeqAt.shaped d && SeqAt.shaped (.tuple ds)) = true then some (ds.any fun z => PyData.eqv z d) else none
  | _, _ => none
def gNotIn : D → D → Option Bool
  | .str x, .str y => some (!strIn x y)
  | d, .list ds => if (SeqAt.shaped d && SeqAt.shaped (.list ds)) = true then some (!ds.any fun z => PyData.eqv z d) else none
  | d, .tuple ds => if (SeqAt.shaped d && SeqAt.shaped (.tuple ds)) = true then some (!ds.any fun z => PyData.eqv z d) else none
  | _, _ => none
theorem isIntss_map : ∀ {ds : List D} {ns : List Int}, isIntss ds = some ns → ds = ns.map .int
  | [], ns, h => by cases h; rfl
  | .int i :: r, ns, h => by
    simp only [isIntss, Option.map_eq_some_iff] at h
    obtain ⟨m, h, rfl⟩ := h
    rw [isIntss_map h]; rfl
  | .none :: _, _, h | .bool _ :: _, _, h | .str _ :: _, _, h | .list _ :: _, _, h | .tuple _ :: _, _, h | .dict _ :: _, _, h => by simp [isIntss] at h
theorem isIntss_of : ∀ ns : List Int, isIntss (ns.map .int) = some ns
  | [] => rfl
  | n :: ns => by simp [isIntss, isIntss_of ns]
section
variable {X : Cx} {K : PySem.W.Frag} {C : Nat → Addr}
theorem os_eq : Cm2 K C (rEqD K) gEq := by
  intro w st H v u x y b Q k rv ru e q
  unfold gEq at e
  split at e
  · rename_i hz
    cases e
    obtain ⟨h1, h2⟩ := Bool.and_eq_true_iff.mp hz
    exact ⟨x, y, rv.dp k.sub (SeqAt.canLay_of_shaped h1), ru.dp k.sub (SeqAt.canLay_of_shaped h2), h1, h2, q⟩
  · cases e
theorem os_ne : Cm2 K C (rNeD K) gNe := by
  intro w st H v u x y b Q k rv ru e q
  unfold gNe at e
  split at e
  · rename_i hz
    cases e
    obtain ⟨h1, h2⟩ := Bool.and_eq_true_iff.mp hz
    exact ⟨x, y, rv.dp k.sub (SeqAt.canLay_of_shaped h1), ru.dp k.sub (SeqAt.canLay_of_shaped h2), h1, h2, q⟩
  · cases e
abbrev rLts (K : PySem.W.Frag) : R2 := fun x y H Q => (∃ i j, x = .int i ∧ y = .int j ∧ Q (.bl (decide (i < j))) H) ∨ rLtT K x y H Q
theorem or_lt (hu : X.A.units < cLine) : OpR X (compareOp .Lt) (rLts X.K) := OpR.or op_lt (op_ltT hu)
theorem os_lt : Cm2 K C (rLts K) gLt := by
  intro w st H v u x y b Q k rv ru e q
  cases x <;> cases y <;> simp only [gLt, reduceCtorEq] at e
  case int.int i j =>
    cases rv.inI; cases ru.inI; cases e
    exact .inl ⟨i, j, rfl, rfl, q⟩
  case tuple.tuple xs ys =>
    cases h1 : isIntss xs with
    | none => rw [h1] at e; cases e
    | some ns =>
      cases h2 : isIntss ys with
      | none => rw [h1, h2] at e; cases e
      | some ms =>
        rw [h1, h2] at e
        cases e
        obtain ⟨a, vs, rfl, ha, za, ra⟩ := rv.inT
        obtain ⟨c, us, rfl, hb, zb, rb⟩ := ru.inT
        rw [isIntss_map h1] at ra
        rw [isIntss_map h2] at rb
        rw [ra.ints] at ha
        rw [rb.ints] at hb
        exact .inr ⟨a, c, ns, ms, rfl, rfl, SqT.of (k.sub _ _ ha), SqT.of (k.sub _ _ hb), q⟩
theorem os_cmpI {p : Int → Int → Bool} {g : D → D → Option Bool} (hg : ∀ x y b, g x y = some b → ∃ i j, x = .int i ∧ y = .int j ∧ b = p i j) : Cm2 K C (rI0 fun i j => .bl (p i j)) g := by
  intro w st H v u x y b Q k rv ru e q
  obtain ⟨i, j, rfl, rfl, rfl⟩ := hg x y b e
  cases rv.inI; cases ru.inI
  exact ⟨i, j, rfl, rfl, q⟩
theorem os_le : Cm2 K C (rI0 fun i j => .bl (decide (i ≤ j))) gLe := os_cmpI (p := fun i j => decide (i ≤ j)) fun x y b e => by
  cases x <;> cases y <;> simp only [gLe, reduceCtorEq] at e
  cases e; exact ⟨_, _, rfl, rfl, rfl⟩
theorem os_gt : Cm2 K C (rI0 fun i j => .bl (decide (j < i))) gGt := os_cmpI (p := fun i j => decide (j < i)) fun x y b e => by
  cases x <;> cases y <;> simp only [gGt, reduceCtorEq] at e
  cases e; exact ⟨_, _, rfl, rfl, rfl⟩
theorem os_ge : Cm2 K C (rI0 fun i j => .bl (decide (j ≤ i))) gGe := os_cmpI (p := fun i j => decide (j ≤ i)) fun x y b e => by
  cases x <;> cases y <;> simp only [gGe, reduceCtorEq] at e
  cases e; exact ⟨_, _, rfl, rfl, rfl⟩
theorem Rep.isN {N : Nv} {v : V} {d : D} (r : Rep N v d) : decide (v = .non) = isNo d := by
  cases r <;> rfl
theorem os_isN : Cm2 K C (fun x y H Q => y = .non ∧ Q (.bl (decide (x = .non))) H) gIsN := by
  intro w st H v u x y b Q k rv ru e q
  cases y <;> simp only [gIsN, reduceCtorEq] at e
  cases ru.inN
  refine ⟨rfl, ?_⟩
  rw [rv.isN]
  cases e
  exact q
theorem os_notN : Cm2 K C (fun x y H Q => y = .non ∧ Q (.bl (!decide (x = .non))) H) gNotN := by
  intro w st H v u x y b Q k rv ru e q
  cases y <;> simp only [gNotN, reduceCtorEq] at e
  cases ru.inN
  refine ⟨rfl, ?_⟩
  rw [rv.isN]
  cases e
  exact q
def rInT (K : PySem.W.Frag) : R2 := fun x y H Q => ∃ d ds, Dp K H x d ∧ Dp K H y (.tuple ds) ∧ SeqAt.shaped d = true ∧ SeqAt.shaped (.tuple ds) = true ∧ Q (.bl (ds.any fun z => PyData.eqv z d)) H
def rNotInT (K : PySem.W.Frag) : R2 := fun x y H Q => ∃ d ds, Dp K H x d ∧ Dp K H y (.tuple ds) ∧ SeqAt.shaped d = true ∧ SeqAt.shaped (.tuple ds) = true ∧ Q (.bl (!ds.any fun z => PyData.eqv z d)) H
theorem op_inT (hu : X.A.units + 65 < cLine) : OpR X (compareOp .In) (rInT X.K) := fun pins s σ H x y v u Q I rx ry ⟨d, ds, hd, he, sd, se, q⟩ => by
  obtain ⟨as, r1⟩ := Dp.reads I d x v hd rx
  obtain ⟨bs, r2⟩ := Dp.reads I (.tuple ds) y u he ry
  exact SeqAt.in_tuple_reads r2 r1 (SeqAt.canLay_of_shaped se) (SeqAt.canLay_of_shaped sd) (PyProof.Rows.room_in_shaped sd hu) ⟨.bl _, H, I, rfl, q⟩
theorem op_notInT (hu : X.A.units + 65 < cLine) : OpR X (compareOp .NotIn) (rNotInT X.K) := fun pins s σ H x y v u Q I rx ry ⟨d, ds, hd, he, sd, se, q⟩ => by
  obtain ⟨as, r1⟩ := Dp.reads I d x v hd rx
  obtain ⟨bs, r2⟩ := Dp.reads I (.tuple ds) y u he ry
  exact SeqAt.notIn_tuple_reads r2 r1 (SeqAt.canLay_of_shaped se) (SeqAt.canLay_of_shaped sd) (PyProof.Rows.room_in_shaped sd hu) ⟨.bl _, H, I, rfl, q⟩
abbrev rIns (K : PySem.W.Frag) : R2 := fun x y H Q => (∃ i j, x = .str i ∧ y = .str j ∧ Q (.bl (!(Builtin.Str.occurrences j i 0 j.length 1).isEmpty)) H) ∨ rInD K x y H Q ∨ rInT K x y H Q
abbrev rNotIns (K : PySem.W.Frag) : R2 := fun x y H Q => (∃ i j, x = .str i ∧ y = .str j ∧ Q (.bl (!(!(Builtin.Str.occurrences j i 0 j.length 1).isEmpty))) H) ∨ rNotInD K x y H Q ∨ rNotInT K x y H Q
theorem or_in (hu : X.A.units + 65 < cLine) : OpR X (compareOp .In) (rIns X.K) := OpR.or op_in_str (OpR.or (op_inD hu) (op_inT hu))
theorem or_notIn (hu : X.A.units + 65 < cLine) : OpR X (compareOp .NotIn) (rNotIns X.K) := OpR.or op_notin_str (OpR.or (op_notInD hu) (op_notInT hu))
theorem os_in : Cm2 K C (rIns K) gIn := by
  intro w st H v u x y b Q k rv ru e q
  cases y with
  | str y =>
    cases x <;> simp only [gIn, reduceCtorEq] at e
    cases rv.inS; cases ru.inS; cases e
    exact .inl ⟨_, y, rfl, rfl, q⟩
  | list ds =>
    have e' : (if (SeqAt.shaped x && SeqAt.shaped (.list ds)) = true then some (ds.any fun z => PyData.eqv z x) else none) = some b := by cases x <;> exact e
    split at e'
    · rename_i hz
      cases e'
      obtain ⟨h1, h2⟩ := Bool.and_eq_true_iff.mp hz
      exact .inr (.inl ⟨x, ds, rv.dp k.sub (SeqAt.canLay_of_shaped h1), ru.dp k.sub (SeqAt.canLay_of_shaped h2), h1, h2, q⟩)
    · cases e'
  | tuple ds =>
    have e' : (if (SeqAt.shaped x && SeqAt.shaped (.tuple ds)) = true then some (ds.any fun z => PyData.eqv z x) else none) = some b := by cases x <;> exact e
    split at e'
    · rename_i hz
      cases e'
      obtain ⟨h1, h2⟩ := Bool.and_eq_true_iff.mp hz
      exact .inr (.inr ⟨x, ds, rv.dp k.sub (SeqAt.canLay_of_shaped h1), ru.dp k.sub (SeqAt.canLay_of_shaped h2), h1, h2, q⟩)
    · cases e'
  | _ => cases x <;> simp [gIn] at e
theorem os_notIn : Cm2 K C (rNotIns K) gNotIn := by
  intro w st H v u x y b Q k rv ru e q
  cases y with
  | str y =>
    cases x <;> simp only [gNotIn, reduceCtorEq] at e
    cases rv.inS; cases ru.inS; cases e
    exact .inl ⟨_, y, rfl, rfl, q⟩
  | list ds =>
    have e' : (if (SeqAt.shaped x && SeqAt.shaped (.list ds)) = true then some (!ds.any fun z => PyData.eqv z x) else none) = some b := by cases x <;> exact e
    split at e'
    · rename_i hz
      cases e'
      obtain ⟨h1, h2⟩ := Bool.and_eq_true_iff.mp hz
      exact .inr (.inl ⟨x, ds, rv.dp k.sub (SeqAt.canLay_of_shaped h1), ru.dp k.sub (SeqAt.canLay_of_shaped h2), h1, h2, q⟩)
    · cases e'
  | tuple ds =>
    have e' : (if (SeqAt.shaped x && SeqAt.shaped (.tuple ds)) = true then some (!ds.any fun z => PyData.eqv z x) else none) = some b := by cases x <;> exact e
    split at e'
    · rename_i hz
      cases e'
      obtain ⟨h1, h2⟩ := Bool.and_eq_true_iff.mp hz
      exact .inr (.inr ⟨x, ds, rv.dp k.sub (SeqAt.canLay_of_shaped h1), ru.dp k.sub (SeqAt.canLay_of_shaped h2), h1, h2, q⟩)
    · cases e'
  | _ => cases x <;> simp [gNotIn] at e
end
end BF

/-! BF3: logic, subscripts, displays, calls of built-ins. -/
namespace BF
open PySem L2

/-! ### truth, and, or, not -/
def gTru : D → Option Bool
  | .none => some false
  | .bool b => some b
  | .int i => some (i != 0)
  | .str x => if x.length ≤ sizeLine then some ((x.length : Int) != 0) else none
  | .list xs => some (!xs.isEmpty)
  | .tuple xs => some (!xs.isEmpty)
  | .dict [(.bool false, .list ns)] => some (!ns.isEmpty)
  | _ => none
def truF (f : EF) : TF := fun ρ st => (f ρ st).bnd fun d st => .ofO (gTru d) st
def notT (f : TF) : TF := fun ρ st => (f ρ st).bnd fun b st => .ok (!b) st
def andT (f g : TF) : TF := fun ρ st => (f ρ st).bnd fun b st => if b = true then g ρ st else .ok false st
def orT (f g : TF) : TF := fun ρ st => (f ρ st).bnd fun b st => if b = true then .ok true st else g ρ st
def iteF {α : Type} (t : TF) (f g : XF α) : XF α := fun ρ st => (t ρ st).bnd fun b st => if b = true then f ρ st else g ρ st
def chT (g g' : D → D → Option Bool) (fa fb fc : EF) : TF := fun ρ st => (fa ρ st).bnd fun x st => (fb ρ st).bnd fun y st => (EO.ofO (g x y) st).bnd fun b st =>
  if b = true then (fc ρ st).bnd fun z st => .ofO (g' y z) st else .ok false st
theorem RepA.empty {N : Nv} {vs : List V} {ds : List D} (r : RepA N vs ds) : ds.isEmpty = vs.isEmpty := by cases r <;> rfl
section
variable {X : Cx} {C : Nat → Addr} {W : WX} {a b c e : Expr} {fa fb fc : EF} {ta tb tc : TF} {pos : Pos} {rest : List Expr}
theorem dt_tru (ha : DE X C W fa a) (he : ∀ whole, isTrue a X.env whole = (do let v ← whole; standAt a.pos; holding [v] (truthy v)) := by intro _; rfl) : DT X C W (truF fa) a := by
  refine PT.imp (pt_truth ha he) fun σ H Q h => ?_
  obtain ⟨w, st, O, ρ, rel, h⟩ := h
  refine ⟨w, st, O, ρ, rel, (Out.bnd h).mono fun w1 H1 x st1 g1 k1 h1 v rv => ?_⟩
  revert h1
  cases e : gTru x with
  | none => exact fun h2 => h2.elim
  | some k =>
    intro h2
    refine ⟨k, ?_, Out.here h2 k1⟩
    cases rv with
    | non => cases e; rfl
    | bl b => cases e; rfl
    | int i => cases e; rfl
    | str y =>
      simp only [gTru] at e
      split at e
      · rename_i hz; cases e; exact ⟨hz, rfl⟩
      · cases e
    | lst ha z r => cases e; exact .inl ⟨_, SqL.of (k1.sub _ _ ha), by rw [r.empty]⟩
    | tup ha z r => cases e; exact .inr (.inl ⟨_, SqT.of (k1.sub _ _ ha), by rw [r.empty]⟩)
    | ob _ => cases e
    | ex _ => cases e
    | scr hs => cases e; exact .inl ⟨_, sqL_le k1.sub hs, by simp⟩
    | dK ha z r => cases r with
      | nil => cases e
      | @cons ky => rename_i r1 r2 r3; cases ky with
        | inl i => cases r1; cases r3 <;> cases e
        | inr i => cases r1; cases r3 <;> cases e
    | dT ha z r => cases e
theorem dt_not (ha : DT X C W ta a) : DT X C W (notT ta) (.UnaryOp .Not a pos) := PT.imp (pt_not ha) fun σ H Q h => by
  obtain ⟨w, st, O, ρ, rel, h⟩ := h
  exact ⟨w, st, O, ρ, rel, (Out.bnd h).mono fun w1 H1 x st1 g1 k1 h1 => Out.here h1 k1⟩
theorem dw_and1 (ha : DT X C W ta a) : DW X C W ta (.BoolOp .And [a] pos) := pw_and1 ha
theorem dw_or1 (ha : DT X C W ta a) : DW X C W ta (.BoolOp .Or [a] pos) := pw_or1 ha
theorem dw_and (ha : DT X C W ta a) (hb : DW X C W tb (.BoolOp .And (b :: rest) pos)) : DW X C W (andT ta tb) (.BoolOp .And (a :: b :: rest) pos) := PW.imp (pw_and ha hb) fun σ H Q h => by
  obtain ⟨w, st, O, ρ, rel, h⟩ := h
  refine ⟨w, st, O, ρ, rel, (Out.bnd h).mono fun w1 H1 x st1 g1 k1 h1 => ?_⟩
  cases x with
  | true => exact ⟨w1, st1, O, ρ, rel.grow g1 k1, h1⟩
  | false => exact Out.here h1 k1
theorem dw_or (ha : DT X C W ta a) (hb : DW X C W tb (.BoolOp .Or (b :: rest) pos)) : DW X C W (orT ta tb) (.BoolOp .Or (a :: b :: rest) pos) := PW.imp (pw_or ha hb) fun σ H Q h => by
  obtain ⟨w, st, O, ρ, rel, h⟩ := h
  refine ⟨w, st, O, ρ, rel, (Out.bnd h).mono fun w1 H1 x st1 g1 k1 h1 => ?_⟩
  cases x with
  | true => exact Out.here h1 k1
  | false => exact ⟨w1, st1, O, ρ, rel.grow g1 k1, h1⟩
theorem dt_w (h : DW X C W ta a) : DT X C W ta a := h.pt
/-- as values: truth values -/
theorem de_and1 (ha : DE X C W (tv ta) a) : DE X C W (tv ta) (.BoolOp .And [a] pos) := pe_one ha
theorem de_or1 (ha : DE X C W (tv ta) a) : DE X C W (tv ta) (.BoolOp .Or [a] pos) := pe_one ha
theorem de_and (ha : DE X C W (tv ta) a) (hb : DE X C W (tv tb) (.BoolOp .And (b :: rest) pos)) : DE X C W (tv (andT ta tb)) (.BoolOp .And (a :: b :: rest) pos) := PE.imp (pe_and ha hb) fun σ H Q h => by
  obtain ⟨w, st, O, ρ, rel, h⟩ := h
  refine ⟨w, st, O, ρ, rel, ?_⟩
  have h' := Out.bnd (Out.bnd h)
  show Out _ _ _ _ _ _ ((ta ρ st).bnd fun b st => (EO.ok (PyData.bool b) st : EO D)) _
  revert h'
  cases ta ρ st with
  | ok x st1 =>
    intro h' w1 H1 g1 k1 v rv
    cases rv
    refine ⟨x, rfl, ?_⟩
    have h1 := h' w1 H1 g1 k1
    cases x with
    | true =>
      refine ⟨w1, st1, O, ρ, rel.grow g1 k1, ?_⟩
      show Out _ _ _ _ _ _ ((tb ρ st1).bnd fun b st => (EO.ok (PyData.bool b) st : EO D)) _
      revert h1
      show Out _ _ _ _ _ _ (tb ρ st1) _ → _
      cases tb ρ st1 with
      | ok y st2 => exact fun h1 w2 H2 g2 k2 => Out.here (h1 w2 H2 g2 k2) k2
      | err c st2 => exact fun h1 => h1
      | bad => exact fun h1 => h1
    | false => exact Out.here (Out.here h1 k1) k1 _ (.bl _)
  | err c st1 => exact fun h' => h'
  | bad => exact fun h' => h'
theorem de_or (ha : DE X C W (tv ta) a) (hb : DE X C W (tv tb) (.BoolOp .Or (b :: rest) pos)) : DE X C W (tv (orT ta tb)) (.BoolOp .Or (a :: b :: rest) pos) := PE.imp (pe_or ha hb) fun σ H Q h => by
  obtain ⟨w, st, O, ρ, rel, h⟩ := h
  refine ⟨w, st, O, ρ, rel, ?_⟩
  have h' := Out.bnd (Out.bnd h)
  show Out _ _ _ _ _ _ ((ta ρ st).bnd fun b st => (EO.ok (PyData.bool b) st : EO D)) _
  revert h'
  cases ta ρ st with
  | ok x st1 =>
    intro h' w1 H1 g1 k1 v rv
    cases rv
    refine ⟨x, rfl, ?_⟩
    have h1 := h' w1 H1 g1 k1
    cases x with
    | true => exact Out.here (Out.here h1 k1) k1 _ (.bl _)
    | false =>
      refine ⟨w1, st1, O, ρ, rel.grow g1 k1, ?_⟩
      show Out _ _ _ _ _ _ ((tb ρ st1).bnd fun b st => (EO.ok (PyData.bool b) st : EO D)) _
      revert h1
      show Out _ _ _ _ _ _ (tb ρ st1) _ → _
      cases tb ρ st1 with
      | ok y st2 => exact fun h1 w2 H2 g2 k2 => Out.here (h1 w2 H2 g2 k2) k2
      | err c st2 => exact fun h1 => h1
      | bad => exact fun h1 => h1
  | err c st1 => exact fun h' => h'
  | bad => exact fun h' => h'
/-- an expression known to be a truth value, read as one -/
def bV (f : EF) : TF := fun ρ st => (f ρ st).bnd fun d st => match d with
  | .bool b => .ok b st
  | _ => .bad
theorem de_bV (ha : DE X C W fa a) : DE X C W (tv (bV fa)) a := PE.imp ha fun σ H Q h => by
  obtain ⟨w, st, O, ρ, rel, h⟩ := h
  refine ⟨w, st, O, ρ, rel, (Out.bnd (Out.bnd h)).mono fun w1 H1 x st1 g1 k1 h1 v rv => ?_⟩
  cases x with
  | bool b => cases rv.inB; exact Out.here (Out.here h1 k1) k1 _ (.bl b)
  | _ => exact h1.elim
theorem not_tv {t : TF} {σ : St} {H : Hp} {Q : VK} (h : tE X.K C W (tv (notT t)) σ H Q) : tE X.K C W (tv t) σ H fun x H1 => ∃ c, x = .bl c ∧ Q (.bl (!c)) H1 := by
  obtain ⟨w, st, O, ρ, rel, h⟩ := h
  refine ⟨w, st, O, ρ, rel, ?_⟩
  have h' := Out.bnd (Out.bnd h)
  show Out _ _ _ _ _ _ ((t ρ st).bnd fun b st => (EO.ok (PyData.bool b) st : EO D)) _
  revert h'
  cases t ρ st with
  | ok x st1 =>
    intro h' w1 H1 g1 k1 v rv
    cases rv
    exact ⟨x, rfl, Out.here (Out.here (h' w1 H1 g1 k1) k1) k1 _ (.bl _)⟩
  | err c st1 => exact fun h' => h'
  | bad => exact fun h' => h'
theorem de_not (ha : DE X C W (tv ta) a) : DE X C W (tv (notT ta)) (.UnaryOp .Not a pos) := PE.imp (pe_not ha) fun σ H Q h => not_tv h
theorem de_if (hc : DT X C W tc c) (ha : DE X C W fa a) (hb : DE X C W fb b) : DE X C W (iteF tc fa fb) (.IfExp c a b pos) := PE.imp (pe_ifExp hc ha hb) fun σ H Q h => by
  obtain ⟨w, st, O, ρ, rel, h⟩ := h
  refine ⟨w, st, O, ρ, rel, (Out.bnd h).mono fun w1 H1 x st1 g1 k1 h1 => ?_⟩
  cases x with
  | true => exact ⟨w1, st1, O, ρ, rel.grow g1 k1, h1⟩
  | false => exact ⟨w1, st1, O, ρ, rel.grow g1 k1, h1⟩
theorem dl_if {la lb : AF} (hc : DT X C W tc c) (ha : DL X C W la a) (hb : DL X C W lb b) : DL X C W (iteF tc la lb) (.IfExp c a b pos) := PE.imp (pe_ifExp hc ha hb) fun σ H Q h => by
  obtain ⟨w, st, O, ρ, rel, h⟩ := h
  refine ⟨w, st, O, ρ, rel, (Out.bnd h).mono fun w1 H1 x st1 g1 k1 h1 => ?_⟩
  have lift : ∀ (l : AF), Out X.K C W w1 σ H1 (l ρ st1) (fun w' H' ds _ => ∀ p vs, H p = none → w'.F p = none → ¬ w'.In p → H' p = some (.lst vs) → ds.length ≤ sizeLine → RepA (w'.env X.K C) vs ds → Q (.ref p) H') → tL X.K C W l σ H1 Q := fun l hl =>
    ⟨w1, st1, O, ρ, rel.grow g1 k1, hl.mono fun w2 H2 y st2 g2 k2 h2 p vs hp => h2 p vs (g1.mono p hp)⟩
  cases x with
  | true => exact lift la h1
  | false => exact lift lb h1
theorem chain_imp {r r' : R2} {g g' : D → D → Option Bool} (hs : Cm2 X.K C r g) (hs' : Cm2 X.K C r' g') {σ : St} {H : Hp} {Q : Bool → Hp → Prop} {Q' : VK} (hQ : ∀ b H, Q b H → Q' (.bl b) H) (h : tT X.K C W (chT g g' fa fb fc) σ H Q) :
    tChain r r' (tE X.K C W fa) (tE X.K C W fb) (tE X.K C W fc) σ H Q' := by
  obtain ⟨w, st, O, ρ, rel, h⟩ := h
  refine ⟨w, st, O, ρ, rel, (Out.bnd h).mono fun w1 H1 x st1 g1 k1 h1 v rv => ?_⟩
  refine ⟨w1, st1, O, ρ, rel.grow g1 k1, (Out.bnd h1).mono fun w2 H2 y st2 g2 k2 h2 u ru => ?_⟩
  revert h2
  cases e : g x y with
  | none => exact fun h2 => h2.elim
  | some d =>
    intro h2
    refine hs w2 st2 H2 v u x y d _ k2 (rv.le (g2.le X.K C)) ru e ⟨d, rfl, ?_⟩
    cases d with
    | false =>
      rw [if_neg Bool.false_ne_true]
      exact hQ _ _ (Out.here h2 k2)
    | true =>
      rw [if_pos rfl]
      refine ⟨w2, st2, O, ρ, (rel.grow g1 k1).grow g2 k2, (Out.bnd (show Out X.K C W w2 σ H2 ((fc ρ st2).bnd fun z st => .ofO (g' y z) st) _ from h2)).mono fun w3 H3 z st3 g3 k3 h3 t rt => ?_⟩
      revert h3
      cases e' : g' y z with
      | none => exact fun h3 => h3.elim
      | some d' => exact fun h3 => hs' w3 st3 H3 u t y z d' _ k3 (ru.le (g3.le X.K C)) rt e' (hQ _ _ (Out.here h3 k3))
theorem dt_ch {op op' : CmpOp} {r r' : R2} {g g' : D → D → Option Bool} (ho : OpR X (compareOp op) r) (hs : Cm2 X.K C r g) (ho' : OpR X (compareOp op') r') (hs' : Cm2 X.K C r' g') (ha : DE X C W fa a) (hb : DE X C W fb b) (hc : DE X C W fc c)
    (hm : lastMarks [op, op'] [b, c] = false := by with_unfolding_all rfl) : DT X C W (chT g g' fa fb fc) (.Compare a [op, op'] [b, c] pos) :=
  PT.imp (pt_chain ho ho' ha hb hc hm) fun _ _ _ h => chain_imp hs hs' (fun b _ q => ⟨b, rfl, q⟩) h
theorem de_ch {op op' : CmpOp} {r r' : R2} {g g' : D → D → Option Bool} (ho : OpR X (compareOp op) r) (hs : Cm2 X.K C r g) (ho' : OpR X (compareOp op') r') (hs' : Cm2 X.K C r' g') (ha : DE X C W fa a) (hb : DE X C W fb b) (hc : DE X C W fc c)
    (hm : lastMarks [op, op'] [b, c] = false := by with_unfolding_all rfl) : DE X C W (tv (chT g g' fa fb fc)) (.Compare a [op, op'] [b, c] pos) :=
  PE.imp (pe_chain ho ho' ha hb hc hm) fun _ _ _ h => chain_imp hs hs' (fun _ _ q => q) (tv_imp h)
end

/-! ### lists made anew; displays -/
section
variable {K : PySem.W.Frag} {C : Nat → Addr} {w : Wd} {st : Sto} {H H0 : Hp} {w0 : Wd}
theorem le_fz {p : Addr} {o : HO} (hf : w.F p = none) : (w.env K C).le ((w.fz p o).env K C) := ⟨rfl, rfl, fun a u h => by
  show upd w.F p o a = some u
  rw [upd_ne (fun e => by rw [e] at h; have h' : w.F p = some u := h; rw [hf] at h'; cases h')]; exact h, fun _ _ h => h⟩
/-- what stands at p is frozen -/
theorem Ok.ice (k : Ok K C w st H) {p : Addr} {o : HO} (hp : H p = some o) (hf : w.F p = none) (hi : ¬ w.In p) : Ok K C (w.fz p o) st H where
  sub := fun a u h => by
    by_cases e : a = p
    · subst e
      have h' : upd w.F a o a = some u := h
      rw [upd_same] at h'; cases h'; exact hp
    · have h' : upd w.F p o a = some u := h
      rw [upd_ne e] at h'; exact k.sub a u h'
  dj := fun a h => by
    have e : a ≠ p := fun e => hi (e ▸ h)
    show upd w.F p o a = none
    rw [upd_ne e]; exact k.dj a h
  nd := k.nd
  ndd := k.ndd
  len := k.len
  obs := fun i fp ob h1 h2 => (k.obs i fp ob h1 h2).le (le_fz hf) fun _ _ _ h => h
theorem Grow.ice (g : Grow w0 H0 w H) {p : Addr} {o : HO} (h0 : H0 p = none) (hf : w.F p = none) : Grow w0 H0 (w.fz p o) H where
  ext := fun a u h => by
    have h1 := g.ext a u h
    show upd w.F p o a = some u
    rw [upd_ne (fun e => by rw [e, hf] at h1; cases h1)]; exact h1
  newF := fun a u h => by
    by_cases e : a = p
    · right; left; rw [e]; exact h0
    · have h' : upd w.F p o a = some u := h
      rw [upd_ne e] at h'; exact g.newF a u h'
  newP := g.newP
  keep := g.keep
  mono := g.mono
  pre := g.pre
end
section
variable {K : PySem.W.Frag} {C : Nat → Addr} {w : Wd} {st : Sto} {H : Hp}
/-- a new object, known to nobody -/
theorem Grow.raw (k : Ok K C w st H) {p : Addr} {o : HO} (hp : H p = none) : Grow w H w (upd H p o) where
  ext := fun _ _ h => h
  newF := fun _ _ h => .inl h
  newP := fun _ h => .inl h
  keep := fun a u h _ => by rw [upd_ne (ne_of_none h hp)]; exact h
  mono := fun a h => by
    by_cases e : a = p
    · rw [e, upd_same] at h; cases h
    · rw [upd_ne e] at h; exact h
  pre := fun _ _ h => h
theorem Ok.raw (k : Ok K C w st H) {p : Addr} {o : HO} (hp : H p = none) : Ok K C w st (upd H p o) where
  sub := fun a u h => by rw [upd_ne (ne_of_none (k.sub a u h) hp)]; exact k.sub a u h
  dj := k.dj
  nd := k.nd
  ndd := k.ndd
  len := k.len
  obs := fun i fp ob h1 h2 => (k.obs i fp ob h1 h2).le (.refl _) fun a _ u hu => by rw [upd_ne (ne_of_none hu hp)]; exact hu
end
def lstV (f : AF) : EF := fun ρ st => (f ρ st).bnd fun ds st => .ok (.list ds) st
def tupV (f : AF) : EF := fun ρ st => (f ρ st).bnd fun ds st => if ds.length ≤ 1000 then .ok (.tuple ds) st else .bad
def chk (f : AF) : AF := fun ρ st => (f ρ st).bnd fun ds st => if ds.length ≤ 1000 then .ok ds st else .bad
def aNil : AF := fun _ st => .ok [] st
def aCons (f : EF) (r : AF) : AF := fun ρ st => (f ρ st).bnd fun d st => (r ρ st).bnd fun ds st => .ok (d :: ds) st
theorem le1000 {n : Nat} (h : n ≤ 1000) : n ≤ sizeLine := Nat.le_trans h (by decide)
section
variable {X : Cx} {C : Nat → Addr} {W : WX} {a b c e : Expr} {fa fb fc : EF} {la : AF} {pos : Pos} {es : List Expr}
theorem lst_imp {K : PySem.W.Frag} {σ : St} {H : Hp} {Q : VK} (h : tE K C W (lstV la) σ H Q) : tL K C W la σ H Q := by
  obtain ⟨w, st, O, ρ, rel, h⟩ := h
  refine ⟨w, st, O, ρ, rel, ?_⟩
  revert h
  unfold lstV
  cases la ρ st with
  | ok ds st1 => exact fun h w1 H1 g1 k1 p vs h0 hf hi hp z r => h (w1.fz p (.lst vs)) H1 (g1.ice h0 hf) (k1.ice hp hf hi) _ (.lst (show upd w1.F p _ p = _ from upd_same) z (r.le (le_fz hf)))
  | err c st1 => exact fun h => h
  | bad => exact fun h => h
theorem de_l (h : DL X C W la e) : DE X C W (lstV la) e := PE.imp h fun _ _ _ h => lst_imp h
theorem da_nil : DA X C W aNil [] := PA.imp pa_nil fun σ H Q h => by
  obtain ⟨w, st, O, ρ, rel, h⟩ := h
  exact Out.here h rel.ok [] .nil
theorem da_cons {r : AF} (ha : DE X C W fa a) (hr : DA X C W r es) (hs : starEach (a :: es) X.env = (false, eval a X.env) :: starEach es X.env := by rfl) : DA X C W (aCons fa r) (a :: es) := PA.imp (pa_cons ha hr hs) fun σ H Q h => by
  obtain ⟨w, st, O, ρ, rel, h⟩ := h
  refine ⟨w, st, O, ρ, rel, (Out.bnd h).mono fun w1 H1 x st1 g1 k1 h1 v rv => ?_⟩
  refine ⟨w1, st1, O, ρ, rel.grow g1 k1, (Out.bnd h1).mono fun w2 H2 y st2 g2 k2 h2 u ru => ?_⟩
  exact Out.here h2 k2 _ (.cons (rv.le (g2.le X.K C)) ru)
theorem de_tup {x1} (h : DA X C W la es) : DE X C W (tupV la) (.Tuple es x1 pos) := PE.imp (pe_tup h) fun σ H Q h => by
  obtain ⟨w, st, O, ρ, rel, h⟩ := h
  refine ⟨w, st, O, ρ, rel, (Out.bnd h).mono fun w1 H1 ds st1 g1 k1 h1 vs rv => ?_⟩
  by_cases hz : ds.length ≤ 1000
  · rw [if_pos hz] at h1
    exact ⟨by rw [rv.length]; exact le1000 hz, fun p hp => new_tup k1 rv (le1000 hz) (fun z w2 H2 g2 k2 r2 => h1 w2 H2 g2 k2 z r2) hp⟩
  · rw [if_neg hz] at h1; exact h1.elim
theorem dl_lst (h : DA X C W la es) : DL X C W (chk la) (.List es pos) := PE.imp (pe_lst h) fun σ H Q h => by
  obtain ⟨w, st, O, ρ, rel, h⟩ := h
  refine ⟨w, st, O, ρ, rel, (Out.bnd h).mono fun w1 H1 ds st1 g1 k1 h1 vs rv => ?_⟩
  by_cases hz : ds.length ≤ 1000
  · rw [if_pos hz] at h1
    refine ⟨by rw [rv.length]; exact le1000 hz, fun p hp => ?_⟩
    refine h1 w1 _ (Grow.raw k1 hp) (Ok.raw k1 hp) p vs (g1.mono p hp) ?_ ?_ upd_same (le1000 hz) rv
    · cases q : w1.F p with
      | none => rfl
      | some u => rw [k1.sub p u q] at hp; cases hp
    · intro q
      obtain ⟨u, hu⟩ := k1.tracked q
      rw [hp] at hu; cases hu
  · rw [if_neg hz] at h1; exact h1.elim
end
end BF

/-! BF4: subscripts, slices, products, built-ins, own defs. -/
namespace BF
open PySem L2

/-! ### o[i] -/
def gIdx : D → D → Option D
  | .list xs, .int i => atI xs i
  | .tuple xs, .int i => atI xs i
  | .str x, .int i => if x.length ≤ sizeLine then (atI x.cps.toList i).map fun c => .str ⟨#[c]⟩ else none
  | .dict [(.bool false, .list xs)], .int i => atI xs i
  | _, _ => none
theorem RepA.atI {N : Nv} {vs : List V} {ds : List D} {i : Int} {d : D} (r : RepA N vs ds) (h : L2.atI ds i = some d) : ∃ v, L2.atI vs i = some v ∧ Rep N v d := by
  unfold L2.atI at h ⊢
  rw [r.length]
  cases e : ixN ds.length i with
  | none => rw [e] at h; cases h
  | some j =>
    rw [e] at h
    exact r.getD h
section
variable {X : Cx} {K : PySem.W.Frag} {C : Nat → Addr} {W : WX} {a b : Expr} {fa fb : EF} {pos : Pos}
theorem os_idx : Op2 K C (rIx K) gIdx := by
  intro w st H v u x y d Q k rv ru e q
  cases y with
  | int i =>
    cases ru.inI
    cases rv with
    | lst ha z r =>
      obtain ⟨v', e1, r1⟩ := r.atI (show L2.atI _ i = some d from e)
      exact .inl ⟨_, _, i, v', rfl, rfl, SqL.of (k.sub _ _ ha), e1, q.id k r1⟩
    | tup ha z r =>
      obtain ⟨v', e1, r1⟩ := r.atI (show L2.atI _ i = some d from e)
      exact .inr (.inl ⟨_, _, i, v', rfl, rfl, SqT.of (k.sub _ _ ha), e1, q.id k r1⟩)
    | str z =>
      simp only [gIdx] at e
      split at e
      · rename_i hz
        obtain ⟨c, e1, rfl⟩ := Option.map_eq_some_iff.mp e
        exact .inr (.inr ⟨z, i, c, rfl, rfl, hz, e1, q.id k (.str _)⟩)
      · cases e
    | scr hs =>
      rename_i a ns
      obtain ⟨v', e1, r1⟩ := (RepA.ofInts (N := w.env K C) ns).atI (show L2.atI _ i = some d from e)
      exact .inl ⟨_, _, i, v', rfl, rfl, sqL_le k.sub hs, e1, q.id k r1⟩
    | dK ha z r => cases r with
      | nil => cases e
      | @cons ky => rename_i r1 r2 r3; cases ky with
        | inl i => cases r1; cases r3 <;> cases e
        | inr i => cases r1; cases r3 <;> cases e
    | dT ha z r => cases e
    | _ => cases e
  | _ => cases x <;> first | (simp [gIdx] at e; done) | (unfold gIdx at e; split at e <;> first | cases e | simp_all)
theorem de_idx (ha : DE X C W fa a) (hb : DE X C W fb b) (hs : PlainIx b := by exact fun _ _ => rfl) : DE X C W (lift2 gIdx fa fb) (.Subscript a b pos) :=
  PE.imp (pe_ix ix_seq ha hb hs) fun _ _ _ h => two_op os_idx h
end

/-! ### o[i:j] -/
def cutD {α : Type} (xs : List α) (lo hi : Option Int) : List α := (xs.drop (HT.sIx xs.length 0 lo)).take (HT.sIx xs.length xs.length hi - HT.sIx xs.length 0 lo)
def gSl : D → Option Int → Option Int → Option D
  | .list xs, lo, hi => some (.list (cutD xs lo hi))
  | .tuple xs, lo, hi => some (.tuple (cutD xs lo hi))
  | .str x, lo, hi => if x.length ≤ sizeLine then some (.str (cutS x lo hi)) else none
  | _, _, _ => none
def slF (f : EF) (lo hi : XF (Option Int)) : EF := fun ρ st => (f ρ st).bnd fun x st => (lo ρ st).bnd fun l st => (hi ρ st).bnd fun h st => .ofO (gSl x l h) st
def noP : XF (Option Int) := fun _ st => .ok none st
def someP (f : EF) : XF (Option Int) := fun ρ st => (f ρ st).bnd fun d st => match d with
  | .int i => .ok (some i) st
  | _ => .bad
def tP (K : PySem.W.Frag) (C : Nat → Addr) (W : WX) (f : XF (Option Int)) : TO := fun σ H Q => ∃ w st O ρ, Rel K C w st O ρ σ H ∧ Out K C W w σ H (f ρ st) fun _ H' b _ => Q b H'
def DP (X : Cx) (C : Nat → Addr) (W : WX) (f : XF (Option Int)) (e : Option Expr) : Prop := PO X e (tP X.K C W f)
theorem RepA.cut {N : Nv} {vs : List V} {ds : List D} (r : RepA N vs ds) (lo hi : Option Int) : RepA N (cutV vs lo hi) (cutD ds lo hi) := by
  unfold cutV cutD
  rw [r.length]
  exact (r.drop _).take _
theorem cutD_length {α : Type} (xs : List α) (lo hi : Option Int) : (cutD xs lo hi).length ≤ xs.length := by
  unfold cutD
  rw [List.length_take, List.length_drop]
  omega
theorem cutD_whole {α : Type} {xs : List α} {lo hi : Option Int} (h : HT.sIx xs.length 0 lo = 0 ∧ HT.sIx xs.length xs.length hi = xs.length) : cutD xs lo hi = xs := by
  unfold cutD
  rw [h.1, h.2]
  simp
section
variable {X : Cx} {K : PySem.W.Frag} {C : Nat → Addr} {W : WX} {a b : Expr} {fa fb : EF} {pos p2 : Pos} {lo hi : Option Expr} {fl fh : XF (Option Int)}
theorem dp_none : DP X C W noP none := ⟨fun pins s σ H Q I h => po_none.run pins s σ H Q I (by
  obtain ⟨w, st, O, ρ, rel, h⟩ := h
  exact Out.here h rel.ok)⟩
theorem dp_some {e : Expr} (h : DE X C W fa e) : DP X C W (someP fa) (some e) := ⟨fun pins s σ H Q I q => (po_some h).run pins s σ H Q I (by
  obtain ⟨w, st, O, ρ, rel, q⟩ := q
  refine ⟨w, st, O, ρ, rel, (Out.bnd q).mono fun w1 H1 x st1 g1 k1 h1 v rv => ?_⟩
  cases x with
  | int i => cases rv.inI; exact ⟨i, rfl, Out.here h1 k1⟩
  | _ => exact h1.elim)⟩
theorem de_sl (ha : DE X C W fa a) (hl : DP X C W fl lo) (hh : DP X C W fh hi) : DE X C W (slF fa fl fh) (.Subscript a (.Slice lo hi none p2) pos) :=
  PE.imp (pe_slice (SlR.or sl_list (SlR.or sl_tupA sl_str)) ha hl hh) fun σ H Q h => by
    obtain ⟨w, st, O, ρ, rel, h⟩ := h
    refine ⟨w, st, O, ρ, rel, (Out.bnd h).mono fun w1 H1 x st1 g1 k1 h1 v rv => ?_⟩
    refine ⟨w1, st1, O, ρ, rel.grow g1 k1, (Out.bnd h1).mono fun w2 H2 l st2 g2 k2 h2 => ?_⟩
    refine ⟨w2, st2, O, ρ, (rel.grow g1 k1).grow g2 k2, (Out.bnd h2).mono fun w3 H3 u st3 g3 k3 h3 => ?_⟩
    have rv3 := (rv.le (g2.le X.K C)).le (g3.le X.K C)
    cases x with
    | list xs =>
      obtain ⟨a, vs, rfl, ha, za, ra⟩ := rv3.inL
      exact .inl ⟨a, vs, rfl, SqL.of (k3.sub _ _ ha), fun p hp => new_lst k3 (ra.cut l u) (Nat.le_trans (cutD_length _ _ _) za) (fun z w' H' g k r => h3 w' H' g k z r) hp⟩
    | tuple xs =>
      obtain ⟨a, vs, rfl, ha, za, ra⟩ := rv3.inT
      refine .inr (.inl ⟨a, vs, rfl, SqT.of (k3.sub _ _ ha), fun hw => ?_, fun _ p hp => new_tup k3 (ra.cut l u) (Nat.le_trans (cutD_length _ _ _) za) (fun z w' H' g k r => h3 w' H' g k z r) hp⟩)
      rw [ra.length] at hw
      have e := cutD_whole hw
      exact h3 w3 H3 (.refl _ _) k3 _ (by rw [e]; exact .tup ha za ra)
    | str y =>
      cases rv3.inS
      simp only [gSl] at h3
      by_cases hz : y.length ≤ sizeLine
      · rw [if_pos hz] at h3
        exact .inr (.inr ⟨y, rfl, hz, h3 w3 H3 (.refl _ _) k3 _ (.str _)⟩)
      · rw [if_neg hz] at h3; exact h3.elim
    | _ => exact h3.elim
end

/-! ### products -/
def strMul (x : Str) (n : Int) : Str := if n < 1 then Str.empty else ⟨(List.replicate n.toNat x.cps).foldl (· ++ ·) #[]⟩
def gMul : D → D → Option D
  | .int i, .int j => if ((decide (-(2 ^ 64) < i) && decide (i < 2 ^ 64)) || (decide (-(2 ^ 64) < j) && decide (j < 2 ^ 64))) = true then some (.int (i * j)) else none
  | .str x, .int n => if x.length ≤ 1000 ∧ 0 ≤ n ∧ n ≤ 1000 then some (.str (strMul x n)) else none
  | .list xs, .int n => if xs.length ≤ 1000 ∧ 0 ≤ n ∧ n ≤ 1000 then some (.list (List.replicate n.toNat xs).flatten) else none
  | .tuple xs, .int n => if xs ≠ [] ∧ xs.length ≤ 1000 ∧ 2 ≤ n ∧ n ≤ 1000 then some (.tuple (List.replicate n.toNat xs).flatten) else none
  | _, _ => none
def rMulS : R2 := fun x y H Q => ∃ z n, x = .str z ∧ y = .int n ∧ z.length ≤ 1000 ∧ 0 ≤ n ∧ n ≤ 1000 ∧ Q (.str (strMul z n)) H
theorem len_rep {α : Type} (xs : List α) : ∀ n : Nat, (List.replicate n xs).flatten.length = n * xs.length
  | 0 => by simp
  | n + 1 => by rw [List.replicate_succ, List.flatten_cons, List.length_append, len_rep xs n, Nat.succ_mul]; omega
theorem foldl_size (a : Array Nat) : ∀ (k : Nat) (acc : Array Nat), ((List.replicate k a).foldl (· ++ ·) acc).size = acc.size + k * a.size
  | 0, acc => by simp
  | k + 1, acc => by rw [List.replicate_succ, List.foldl_cons, foldl_size a k, Array.size_append, Nat.succ_mul]; omega
theorem size_line : sizeLine = 16777216 := sizeLine_eq
section
variable {X : Cx} {K : PySem.W.Frag} {C : Nat → Addr}
theorem op_mulS : OpR X (binaryOp .Mult) rMulS := fun pins s σ H x y v u Q I rx ry ⟨z, n, e1, e2, hz, h0, h1, q⟩ => by
  subst e1 e2
  obtain ⟨t, rfl⟩ := rx
  obtain ⟨t', rfl⟩ := ry
  have big : ∀ k : Nat, k ≤ 1000000 → PySem.Builtin.Str.tooLong k = false := fun k hk => by
    have := size_line
    exact decide_eq_false (by omega)
  have hm : z.length * n.toNat ≤ 1000000 := by
    have : n.toNat ≤ 1000 := by omega
    calc z.length * n.toNat ≤ 1000 * 1000 := Nat.mul_le_mul hz this
      _ = 1000000 := rfl
  refine PySem.P.mul_str (by rw [decide_eq_false (by omega), decide_eq_false (by omega)]; rfl) (fun h2 _ h3 => ?_) (fun _ _ => big _ hm) ?_
  · have h4 : ((z.length * n.toNat : Nat) : Int) ≤ 1000000 := Int.ofNat_le.mpr hm
    rw [Int.natCast_mul, Int.toNat_of_nonneg h0] at h4
    have h5 := (Int.le_ediv_iff_mul_le (a := (z.length : Int)) (b := 2 ^ 63 - 1) (c := n) (by omega)).mpr (by omega)
    omega
  · unfold strMul at q
    by_cases hn : n < 1
    · rw [if_pos hn] at q ⊢
      exact ⟨by decide, .str _, H, I.tok _, ⟨_, rfl⟩, q⟩
    · rw [if_neg hn] at q ⊢
      by_cases hb : (n == 1 || z.length == 0) = true
      · rw [if_pos hb]
        refine ⟨.str z, H, I, ⟨_, rfl⟩, ?_⟩
        have e : (⟨(List.replicate n.toNat z.cps).foldl (· ++ ·) #[]⟩ : Str) = z := by
          simp only [Bool.or_eq_true, beq_iff_eq] at hb
          rcases hb with hb | hb
          · subst hb
            cases z
            simp
          · have hz0 : z.cps = #[] := by
              have : z.cps.size = 0 := hb
              exact Array.eq_empty_of_size_eq_zero this
            cases z
            simp only at hz0
            subst hz0
            congr 1
            have : ∀ k : Nat, (List.replicate k (#[] : Array Nat)).foldl (· ++ ·) #[] = #[] := fun k => by
              induction k with
              | zero => rfl
              | succ k ih => rw [List.replicate_succ, List.foldl_cons]; simpa using ih
            exact this _
        rw [e] at q
        exact q
      · rw [if_neg hb]
        refine ⟨?_, .str _, H, I.tok _, ⟨_, rfl⟩, q⟩
        show Array.size _ ≤ sizeLine
        have e := foldl_size z.cps n.toNat #[]
        have h0' := size_line
        rw [e]
        have hm' : z.cps.size * n.toNat ≤ 1000000 := hm
        rw [Nat.mul_comm] at hm'
        simp only [List.size_toArray, List.length_nil, Nat.zero_add]
        omega
abbrev rMuls (K : PySem.W.Frag) : R2 := fun x y H Q => rI CMul (fun i j => .int (i * j)) x y H Q ∨ rMulS x y H Q ∨ rRep x y H Q ∨ rRepT K x y H Q
theorem or_mul : OpR X (binaryOp .Mult) (rMuls X.K) := OpR.or op_mul (OpR.or op_mulS (OpR.or op_rep op_repT))
theorem os_mul : Op2 K C (rMuls K) gMul := by
  intro w st H v u x y d Q k rv ru e q
  cases x <;> cases y <;> simp only [gMul, reduceCtorEq] at e
  case int.int i j =>
    cases rv.inI; cases ru.inI
    split at e
    · rename_i hz
      cases e
      simp only [Bool.or_eq_true, Bool.and_eq_true, decide_eq_true_eq] at hz
      exact .inl ⟨i, j, rfl, rfl, hz, q.id k (.int _)⟩
    · cases e
  case str.int x n =>
    cases rv.inS; cases ru.inI
    split at e
    · rename_i hz
      cases e
      exact .inr (.inl ⟨x, n, rfl, rfl, hz.1, hz.2.1, hz.2.2, q.id k (.str _)⟩)
    · cases e
  case list.int xs n =>
    cases ru.inI
    obtain ⟨a, vs, rfl, ha, za, ra⟩ := rv.inL
    split at e
    · rename_i hz
      cases e
      have hm : n.toNat * xs.length ≤ 1000 * 1000 := Nat.mul_le_mul (by omega) hz.1
      have h0 := size_line
      have hl : (List.replicate n.toNat xs).flatten.length ≤ sizeLine := by rw [len_rep]; omega
      refine .inr (.inr (.inl ⟨a, n, vs, rfl, rfl, k.sub _ _ ha, by omega, by omega, ?_, ?_⟩))
      · rw [ra.length, Nat.mul_comm]; omega
      · exact fun p hp => new_lst k (ra.rep _) hl q hp
    · cases e
  case tuple.int xs n =>
    cases ru.inI
    obtain ⟨a, vs, rfl, ha, za, ra⟩ := rv.inT
    split at e
    · rename_i hz
      cases e
      have hm : n.toNat * xs.length ≤ 1000 * 1000 := Nat.mul_le_mul (by omega) hz.2.1
      have h0 := size_line
      have hl : (List.replicate n.toNat xs).flatten.length ≤ sizeLine := by rw [len_rep]; omega
      refine .inr (.inr (.inr ⟨a, n, vs, rfl, rfl, SqT.of (k.sub _ _ ha), fun h => hz.1 ?_, hz.2.2.1, hz.2.2.2, by rw [ra.length]; exact hz.2.1, fun p hp => new_tup k (ra.rep _) hl q hp⟩))
      subst h; cases ra; rfl
    · cases e
end
end BF

/-! BF5: built-ins over data; own defs called. -/
namespace BF
open PySem L2

/-! ### lists made anew, behind a rule -/
abbrev BehL (K : PySem.W.Frag) (C : Nat → Addr) (w : Wd) (st : Sto) (H : Hp) (xs : List D) (Q : VK) : Prop :=
  ∀ p vs w' H', Grow w H w' H' → Ok K C w' st H' → H p = none → w'.F p = none → ¬ w'.In p → H' p = some (.lst vs) → xs.length ≤ sizeLine → RepA (w'.env K C) vs xs → Q (.ref p) H'
theorem raw_lst {K : PySem.W.Frag} {C : Nat → Addr} {w : Wd} {st : Sto} {H : Hp} {vs : List V} {xs : List D} {Q : VK} (k : Ok K C w st H) (r : RepA (w.env K C) vs xs) (z : xs.length ≤ sizeLine) (q : BehL K C w st H xs Q) {p : Addr} (hp : H p = none) :
    Q (.ref p) (upd H p (.lst vs)) := by
  refine q p vs w _ (Grow.raw k hp) (Ok.raw k hp) hp ?_ ?_ upd_same z r
  · cases e : w.F p with
    | none => rfl
    | some u => rw [k.sub p u e] at hp; cases hp
  · intro e
    obtain ⟨u, hu⟩ := k.tracked e
    rw [hp] at hu; cases hu
def CallA (K : PySem.W.Frag) (C : Nat → Addr) (r : List V → Hp → VK → Prop) (g : List D → Option D) : Prop :=
  ∀ w st H vs ds d Q, Ok K C w st H → RepA (w.env K C) vs ds → g ds = some d → Beh K C w st H d Q → r vs H Q
def CallL (K : PySem.W.Frag) (C : Nat → Addr) (r : List V → Hp → VK → Prop) (g : List D → Option (List D)) : Prop :=
  ∀ w st H vs ds xs Q, Ok K C w st H → RepA (w.env K C) vs ds → g ds = some xs → BehL K C w st H xs Q → r vs H Q
def callG {α : Type} (g : List D → Option α) (f : AF) : XF α := fun ρ st => (f ρ st).bnd fun ds st => .ofO (g ds) st
section
variable {X : Cx} {C : Nat → Addr} {W : WX} {e : Expr} {es : List Expr} {f : AF} {x : Str} {p pos : Pos} {id T : String} {r : List V → Hp → VK → Prop}
theorem callA_imp {g : List D → Option D} (hs : CallA X.K C r g) {σ : St} {H : Hp} {Q : VK} (h : tE X.K C W (callG g f) σ H Q) : tCB r (tA X.K C W f) σ H Q := by
  obtain ⟨w, st, O, ρ, rel, h⟩ := h
  refine ⟨w, st, O, ρ, rel, (Out.bnd h).mono fun w1 H1 ds st1 g1 k1 h1 vs rv => ?_⟩
  revert h1
  cases e : g ds with
  | none => exact fun h => h.elim
  | some d => exact fun h => hs w1 st1 H1 vs ds d Q k1 rv e fun z w' H' g k r => h w' H' g k z r
theorem callL_imp {g : List D → Option (List D)} (hs : CallL X.K C r g) {σ : St} {H : Hp} {Q : VK} (h : tL X.K C W (callG g f) σ H Q) : tCB r (tA X.K C W f) σ H Q := by
  obtain ⟨w, st, O, ρ, rel, h⟩ := h
  refine ⟨w, st, O, ρ, rel, (Out.bnd h).mono fun w1 H1 ds st1 g1 k1 h1 vs rv => ?_⟩
  revert h1
  cases e : g ds with
  | none => exact fun h => h.elim
  | some d => exact fun h => hs w1 st1 H1 vs ds d Q k1 rv e fun p us w' H' g k h0 hf hi hp z r => h w' H' g k p us (g1.mono p h0) hf hi hp z r
theorem de_callB {g : List D → Option D} (hc : CallR X (.builtin id) r) (hs : CallA X.K C r g) (hm : X.mg x = none) (hv : bootBuiltins x = some (.builtin id)) (ha : DA X C W f (e :: es)) (hg : Gl X x := by rfl) (hn : x ≠ "__name__" := by decide) (hdb : (x == ("__debug__" : Str)) = false := by decide)
    (h1 : starEach (e :: es) X.env = (false, eval e X.env) :: starEach es X.env := by rfl) (h2 : (backTo pos (starEach es X.env)).any (·.1) = false := by rfl) : DE X C W (callG g f) (.Call (.Name x p) (e :: es) [] pos) :=
  PE.imp (pe_callB hc hg hm hv ha hn hdb h1 h2) fun _ _ _ h => callA_imp hs h
theorem de_callT {g : List D → Option D} (hc : CallR X (.type T) r) (hs : CallA X.K C r g) (hm : X.mg x = none) (hv : bootBuiltins x = some (.type T)) (ha : DA X C W f (e :: es)) (hg : Gl X x := by rfl) (hn : x ≠ "__name__" := by decide) (hdb : (x == ("__debug__" : Str)) = false := by decide)
    (h1 : starEach (e :: es) X.env = (false, eval e X.env) :: starEach es X.env := by rfl) (h2 : (backTo pos (starEach es X.env)).any (·.1) = false := by rfl) : DE X C W (callG g f) (.Call (.Name x p) (e :: es) [] pos) :=
  PE.imp (pe_callTy hc hg hm hv ha hn hdb h1 h2) fun _ _ _ h => callA_imp hs h
theorem dl_callT {g : List D → Option (List D)} (hc : CallR X (.type T) r) (hs : CallL X.K C r g) (hm : X.mg x = none) (hv : bootBuiltins x = some (.type T)) (ha : DA X C W f (e :: es)) (hg : Gl X x := by rfl) (hn : x ≠ "__name__" := by decide) (hdb : (x == ("__debug__" : Str)) = false := by decide)
    (h1 : starEach (e :: es) X.env = (false, eval e X.env) :: starEach es X.env := by rfl) (h2 : (backTo pos (starEach es X.env)).any (·.1) = false := by rfl) : DL X C W (callG g f) (.Call (.Name x p) (e :: es) [] pos) :=
  PE.imp (pe_callTy hc hg hm hv ha hn hdb h1 h2) fun _ _ _ h => callL_imp hs h
theorem dl_callB {g : List D → Option (List D)} (hc : CallR X (.builtin id) r) (hs : CallL X.K C r g) (hm : X.mg x = none) (hv : bootBuiltins x = some (.builtin id)) (ha : DA X C W f (e :: es)) (hg : Gl X x := by rfl) (hn : x ≠ "__name__" := by decide) (hdb : (x == ("__debug__" : Str)) = false := by decide)
    (h1 : starEach (e :: es) X.env = (false, eval e X.env) :: starEach es X.env := by rfl) (h2 : (backTo pos (starEach es X.env)).any (·.1) = false := by rfl) : DL X C W (callG g f) (.Call (.Name x p) (e :: es) [] pos) :=
  PE.imp (pe_callB hc hg hm hv ha hn hdb h1 h2) fun _ _ _ h => callL_imp hs h
end

/-! ### the built-ins -/
def gLen : List D → Option D
  | [.list xs] => some (.int xs.length)
  | [.tuple xs] => some (.int xs.length)
  | [.str x] => if x.length ≤ sizeLine then some (.int x.length) else none
  | [.dict [(.bool false, .list ns)]] => some (.int ns.length)
  | _ => none
def gAbs : List D → Option D
  | [.int i] => some (.int (if i < 0 then -i else i))
  | _ => none
def gMax2 : List D → Option D
  | [.int i, .int j] => some (.int (if j > i then j else i))
  | _ => none
def gMin2 : List D → Option D
  | [.int i, .int j] => some (.int (if j < i then j else i))
  | _ => none
def gInt : List D → Option D
  | [.int i] => some (.int i)
  | [.bool b] => some (.int (if b then 1 else 0))
  | _ => none
def gIntS : List D → Option D
  | [.str x] => if x.length ≤ 640 then (PySem.intText? x).map .int else none
  | _ => none
def gStr : List D → Option D
  | [.int i] => if i.natAbs < 1000000 then some (.str (toString i)) else none
  | _ => none
def gSum : List D → Option D
  | [.list xs] => (isIntss xs).map fun ns => .int ns.sum
  | _ => none
def isBls : List D → Option (List Bool)
  | [] => some []
  | .bool i :: r => (isBls r).map (i :: ·)
  | _ :: _ => none
def gAll : List D → Option D
  | [.list xs] => (isBls xs).map fun bs => .bool (bs.all id)
  | _ => none
def gListOf : List D → Option (List D)
  | [.list xs] => some xs
  | [.tuple xs] => some xs
  | _ => none
def gTupOf : List D → Option D
  | [.list xs] => some (.tuple xs)
  | [.tuple xs] => some (.tuple xs)
  | _ => none
def alikeB (ds : List D) : Bool := ds.all fun d => !isNo d && ds.all fun e => PySem.W.alike d e
def fine (ds : List D) : Bool := PyData.canLayAll0 ds && decide (PyData.depthAll ds ≤ 60) && alikeB ds
def gMin : List D → Option D
  | [.list (x :: ds)] => if fine (x :: ds) = true then some (PySem.W.minD x ds) else none
  | _ => none
def gMax : List D → Option D
  | [.list (x :: ds)] => if fine (x :: ds) = true then some (PySem.W.maxD x ds) else none
  | _ => none
/-- no empty tuple, no tuple beside others -/
def sortB (ds : List D) : Bool := (ds.all fun d => match d with | .tuple (_ :: _) => true | _ => false) || ds.all fun d => match d with | .tuple _ => false | .none => false | _ => true
def gSorted : List D → Option (List D)
  | [.list ds] => if (fine ds && sortB ds) = true then some (ds.mergeSort (PySem.W.dataLe false id)) else none
  | _ => none
theorem isBls_map : ∀ {ds : List D} {ns : List Bool}, isBls ds = some ns → ds = ns.map .bool
  | [], ns, h => by cases h; rfl
  | .bool i :: r, ns, h => by
    simp only [isBls, Option.map_eq_some_iff] at h
    obtain ⟨m, h, rfl⟩ := h
    rw [isBls_map h]; rfl
  | .none :: _, _, h | .int _ :: _, _, h | .str _ :: _, _, h | .list _ :: _, _, h | .tuple _ :: _, _, h | .dict _ :: _, _, h => by simp [isBls] at h
theorem isBls_of : ∀ ns : List Bool, isBls (ns.map .bool) = some ns
  | [] => rfl
  | n :: ns => by simp [isBls, isBls_of ns]
theorem RepA.one {N : Nv} {vs : List V} {d : D} (r : RepA N vs [d]) : ∃ v, vs = [v] ∧ Rep N v d := by
  cases r with
  | cons h r => cases r; exact ⟨_, rfl, h⟩
theorem RepA.two {N : Nv} {vs : List V} {d e : D} (r : RepA N vs [d, e]) : ∃ v u, vs = [v, u] ∧ Rep N v d ∧ Rep N u e := by
  cases r with
  | cons h r => obtain ⟨u, rfl, q⟩ := r.one; exact ⟨_, u, rfl, h, q⟩
section
variable {X : Cx} {K : PySem.W.Frag} {C : Nat → Addr}
theorem cs_len : CallA K C (fun xs H Q => ∃ x n, xs = [x] ∧ LenV K x H n ∧ Q (.int n) H) gLen := by
  intro w st H vs ds d Q k r e q
  match ds, e with
  | [.list xs], e =>
    cases e
    obtain ⟨v, rfl, rv⟩ := r.one
    obtain ⟨a, us, rfl, ha, za, ra⟩ := rv.inL
    exact ⟨_, us.length, rfl, .inl ⟨us, SqL.of (k.sub _ _ ha), rfl⟩, by rw [ra.length]; exact q.id k (.int _)⟩
  | [.tuple xs], e =>
    cases e
    obtain ⟨v, rfl, rv⟩ := r.one
    obtain ⟨a, us, rfl, ha, za, ra⟩ := rv.inT
    exact ⟨_, us.length, rfl, .inr ⟨us, SqT.of (k.sub _ _ ha), rfl⟩, by rw [ra.length]; exact q.id k (.int _)⟩
  | [.str x], e =>
    obtain ⟨v, rfl, rv⟩ := r.one
    cases rv.inS
    simp only [gLen] at e
    split at e
    · rename_i hz
      cases e
      exact ⟨_, x.length, rfl, ⟨hz, rfl⟩, q.id k (.int _)⟩
    · cases e
  | [.dict kds], e =>
    obtain ⟨v, rfl, rv⟩ := r.one
    cases rv with
    | scr hs =>
      rename_i a ns
      cases e
      exact ⟨_, (ns.map V.int).length, rfl, .inl ⟨_, sqL_le k.sub hs, rfl⟩, by simp only [List.length_map] at q ⊢; exact q.id k (.int _)⟩
    | ob _ => cases e
    | ex _ => cases e
    | dK ha z r => cases r with
      | nil => cases e
      | @cons ky => rename_i r1 r2 r3; cases ky with
        | inl i => cases r1; cases r3 <;> cases e
        | inr i => cases r1; cases r3 <;> cases e
    | dT ha z r => cases e
  | .dict _ :: _ :: _, e => simp [gLen] at e
theorem cs_abs : CallA K C (fun xs H Q => ∃ i, xs = [.int i] ∧ Q (.int (if i < 0 then -i else i)) H) gAbs := by
  intro w st H vs ds d Q k r e q
  match ds, e with
  | [.int i], e =>
    cases e
    obtain ⟨v, rfl, rv⟩ := r.one
    cases rv.inI
    exact ⟨i, rfl, q.id k (.int _)⟩
theorem cs_max2 : CallA K C (fun xs H Q => ∃ i j, xs = [.int i, .int j] ∧ Q (.int (if j > i then j else i)) H) gMax2 := by
  intro w st H vs ds d Q k r e q
  match ds, e with
  | [.int i, .int j], e =>
    cases e
    obtain ⟨v, u, rfl, rv, ru⟩ := r.two
    cases rv.inI; cases ru.inI
    exact ⟨i, j, rfl, q.id k (.int _)⟩
theorem cs_min2 : CallA K C (fun xs H Q => ∃ i j, xs = [.int i, .int j] ∧ Q (.int (if j < i then j else i)) H) gMin2 := by
  intro w st H vs ds d Q k r e q
  match ds, e with
  | [.int i, .int j], e =>
    cases e
    obtain ⟨v, u, rfl, rv, ru⟩ := r.two
    cases rv.inI; cases ru.inI
    exact ⟨i, j, rfl, q.id k (.int _)⟩
theorem cs_int : CallA K C (fun xs H Q => (∃ i, xs = [.int i] ∧ Q (.int i) H) ∨ ∃ k, xs = [.bl k] ∧ Q (.int (if k then 1 else 0)) H) gInt := by
  intro w st H vs ds d Q k r e q
  match ds, e with
  | [.int i], e =>
    cases e
    obtain ⟨v, rfl, rv⟩ := r.one
    cases rv.inI
    exact .inl ⟨i, rfl, q.id k (.int _)⟩
  | [.bool i], e =>
    cases e
    obtain ⟨v, rfl, rv⟩ := r.one
    cases rv.inB
    exact .inr ⟨i, rfl, q.id k (.int _)⟩
theorem cs_intS : CallA K C (fun xs H Q => ∃ a n, xs = [.str a] ∧ PySem.intText? a = some n ∧ a.length ≤ 640 ∧ Q (.int n) H) gIntS := by
  intro w st H vs ds d Q k r e q
  match ds, e with
  | [.str i], e =>
    obtain ⟨v, rfl, rv⟩ := r.one
    cases rv.inS
    simp only [gIntS] at e
    split at e
    · rename_i hz
      obtain ⟨n, hn, rfl⟩ := Option.map_eq_some_iff.mp e
      exact ⟨i, n, rfl, hn, hz, q.id k (.int _)⟩
    · cases e
theorem cs_str : CallA K C (fun xs H Q => ∃ i, xs = [.int i] ∧ i.natAbs.log2 < 1920 ∧ Q (.str (toString i)) H) gStr := by
  intro w st H vs ds d Q k r e q
  match ds, e with
  | [.int i], e =>
    obtain ⟨v, rfl, rv⟩ := r.one
    cases rv.inI
    simp only [gStr] at e
    split at e
    · rename_i hz
      cases e
      refine ⟨i, rfl, ?_, q.id k (.str _)⟩
      by_cases h0 : i.natAbs = 0
      · rw [h0]; decide
      · exact (Nat.log2_lt h0).mpr (Nat.lt_of_lt_of_le hz (by decide +kernel))
    · cases e
theorem cs_sum : CallA K C (rSum K) gSum := by
  intro w st H vs ds d Q k r e q
  match ds, e with
  | [.list xs], e =>
    obtain ⟨v, rfl, rv⟩ := r.one
    obtain ⟨a, us, rfl, ha, za, ra⟩ := rv.inL
    obtain ⟨ns, hn, rfl⟩ := Option.map_eq_some_iff.mp (show (isIntss xs).map _ = some d from e)
    rw [isIntss_map hn] at ra
    rw [ra.ints] at ha
    exact ⟨a, ns, rfl, SqL.of (k.sub _ _ ha), q.id k (.int _)⟩
theorem cs_all : CallA K C (rAll K) gAll := by
  intro w st H vs ds d Q k r e q
  match ds, e with
  | [.list xs], e =>
    obtain ⟨v, rfl, rv⟩ := r.one
    obtain ⟨a, us, rfl, ha, za, ra⟩ := rv.inL
    obtain ⟨ns, hn, rfl⟩ := Option.map_eq_some_iff.mp (show (isBls xs).map _ = some d from e)
    rw [isBls_map hn] at ra
    rw [ra.bools] at ha
    exact ⟨a, ns, rfl, SqL.of (k.sub _ _ ha), q.id k (.bl _)⟩
theorem cs_listOf : CallL K C (fun xs H Q => ∃ p ys, xs = [.ref p] ∧ (SqL K H p ys ∨ SqT K H p ys) ∧ ∀ l, H l = none → Q (.ref l) (upd H l (.lst ys))) gListOf := by
  intro w st H vs ds d Q k r e q
  match ds, e with
  | [.list xs], e =>
    cases e
    obtain ⟨v, rfl, rv⟩ := r.one
    obtain ⟨a, us, rfl, ha, za, ra⟩ := rv.inL
    exact ⟨a, us, rfl, .inl (SqL.of (k.sub _ _ ha)), fun l hl => raw_lst k ra za q hl⟩
  | [.tuple xs], e =>
    cases e
    obtain ⟨v, rfl, rv⟩ := r.one
    obtain ⟨a, us, rfl, ha, za, ra⟩ := rv.inT
    exact ⟨a, us, rfl, .inr (SqT.of (k.sub _ _ ha)), fun l hl => raw_lst k ra za q hl⟩
theorem cs_tupOf : CallA K C (fun xs H Q => ∃ p ys, xs = [.ref p] ∧ ((SqL K H p ys ∧ ∀ l, H l = none → Q (.ref l) (upd H l (.tup ys))) ∨ (SqT K H p ys ∧ Q (.ref p) H))) gTupOf := by
  intro w st H vs ds d Q k r e q
  match ds, e with
  | [.list xs], e =>
    cases e
    obtain ⟨v, rfl, rv⟩ := r.one
    obtain ⟨a, us, rfl, ha, za, ra⟩ := rv.inL
    exact ⟨a, us, rfl, .inl ⟨SqL.of (k.sub _ _ ha), fun l hl => new_tup k ra za q hl⟩⟩
  | [.tuple xs], e =>
    cases e
    obtain ⟨v, rfl, rv⟩ := r.one
    obtain ⟨a, us, rfl, ha, za, ra⟩ := rv.inT
    exact ⟨a, us, rfl, .inr ⟨SqT.of (k.sub _ _ ha), q.id k rv⟩⟩

/-! ### min, max, sorted over data -/
theorem alikeB_all {ds : List D} (h : alikeB ds = true) : PySem.W.AlikeAll ds := by
  unfold alikeB at h
  simp only [List.all_eq_true, Bool.and_eq_true, Bool.not_eq_true'] at h
  refine ⟨fun x hx y hy => (h x hx).2 y hy, fun x hx e => ?_⟩
  have := (h x hx).1
  rw [e] at this; cases this
theorem fine_of {ds : List D} (h : fine ds = true) : PyData.canLayAll0 ds = true ∧ PyData.depthAll ds ≤ 60 ∧ PySem.W.AlikeAll ds := by
  unfold fine at h
  simp only [Bool.and_eq_true, decide_eq_true_eq] at h
  exact ⟨h.1.1, h.1.2, alikeB_all h.2⟩
theorem minD_mem (x : D) : ∀ ds : List D, PySem.W.minD x ds ∈ x :: ds := by
  intro ds
  unfold PySem.W.minD
  induction ds generalizing x with
  | nil => simp
  | cons y ds ih =>
    rw [List.foldl_cons]
    split
    · exact List.mem_cons_of_mem _ (ih y)
    · rcases List.mem_cons.mp (ih x) with e | e
      · rw [e]; exact List.mem_cons_self
      · exact List.mem_cons_of_mem _ (List.mem_cons_of_mem _ e)
theorem maxD_mem (x : D) : ∀ ds : List D, PySem.W.maxD x ds ∈ x :: ds := by
  intro ds
  unfold PySem.W.maxD
  induction ds generalizing x with
  | nil => simp
  | cons y ds ih =>
    rw [List.foldl_cons]
    split
    · exact List.mem_cons_of_mem _ (ih y)
    · rcases List.mem_cons.mp (ih x) with e | e
      · rw [e]; exact List.mem_cons_self
      · exact List.mem_cons_of_mem _ (List.mem_cons_of_mem _ e)
theorem canLay_mem {ds : List D} (h : PyData.canLayAll0 ds = true) {d : D} (hd : d ∈ ds) : d.canLay0 = true := by
  induction ds with
  | nil => simp at hd
  | cons y ds ih =>
    simp only [PyData.canLayAll0, Bool.and_eq_true] at h
    rcases List.mem_cons.mp hd with e | e
    · rw [e]; exact h.1
    · exact ih h.2 e
theorem depth_mem {ds : List D} {n : Nat} (h : PyData.depthAll ds ≤ n) {d : D} (hd : d ∈ ds) : d.depth ≤ n := by
  induction ds with
  | nil => simp at hd
  | cons y ds ih =>
    simp only [PyData.depthAll] at h
    rcases List.mem_cons.mp hd with e | e
    · rw [e]; omega
    · exact ih (by omega) e
theorem ReadsAll.at_ {h : Heap} : ∀ {us : List Value} {ds : List D} {as : List Addr} {i : Nat} {u : Value}, ReadsAll h us ds as → us[i]? = some u → ∃ d bs, ds[i]? = some d ∧ Reads h u d bs
  | _, [], _, i, u, r, e => by cases r; simp at e
  | _, d :: ds, _, 0, u, r, e => by
    cases r with
    | cons h1 h2 => simp at e; subst e; exact ⟨d, _, rfl, h1⟩
  | _, d :: ds, _, i + 1, u, r, e => by
    cases r with
    | cons h1 h2 => simpa using ReadsAll.at_ (i := i) h2 (by simpa using e)
/-- the item that is told: its place, its datum -/
def rPick (K : PySem.W.Frag) (g : D → List D → D) : List V → Hp → VK → Prop := fun vs H Q => ∃ (a : Addr) (xs : List V) (x : D) (ds : List D), vs = [.ref a] ∧ SqL K H a xs ∧ DpAll K H xs (x :: ds) ∧ fine (x :: ds) = true ∧
  ∀ (i : Nat) (v : V), xs[i]? = some v → (x :: ds)[i]? = some (g x ds) → Q v H
theorem pick_end {pins : List (Addr × Obj)} {s : Shared} {σ : St} {H : Hp} {Q : VK} {xs : List V} {its : List Value} {ds : List D} {as bs : List Addr} {m : D} {i : Nat} {v : Value} {h' : Heap} {tk : Nat}
    (I : Inv X pins σ H s) (rv : Vals xs its) (ra : ReadsAll s.heap its ds as) (hc : PyData.canLayAll0 ds = true) (hm : m ∈ ds) (e : its[i]? = some v) (r : Reads h' v m bs) (hk : ∀ b o, s.heap.get? b = some o → h'.get? b = some o)
    (q : ∀ (i : Nat) (v : V), xs[i]? = some v → ds[i]? = some m → Q v H) : EP X pins σ Q v { s with heap := h', toks := tk } := by
  obtain ⟨d, cs, hd, rd⟩ := ReadsAll.at_ ra e
  have hd' : d ∈ ds := List.mem_of_getElem? hd
  have e1 : SeqAt.readOf h' v = m := SeqAt.readOf_eq (canLay_mem hc hm) r
  have e2 : SeqAt.readOf h' v = d := SeqAt.readOf_eq (canLay_mem hc hd') (PySem.W.reads_keeps hk rd)
  have hi : i < xs.length := by
    rw [rv.length]; exact (List.getElem?_eq_some_iff.mp e).1
  obtain ⟨u, hu, ru⟩ := rv.get (i := i) (x := xs[i]) (by simp [hi])
  rw [e] at hu
  cases hu
  exact ⟨xs[i], H, I.kept hk, ru, q i _ (by simp [hi]) (by rw [hd, ← e2, e1])⟩
theorem cr_minD (g : Room k X.A) (hc : X.calm = true) : CallR X (.builtin "min") (rPick X.K PySem.W.minD) := by
  intro pins s σ H vs us Q I r h
  obtain ⟨a, xs, x, ds, rfl, hs, hd, hf, q⟩ := h
  obtain ⟨its, rv, pl, _⟩ := I.list hs
  obtain ⟨f1, f2, f3⟩ := fine_of hf
  obtain ⟨as, ra⟩ := Dp.readsAll I (x :: ds) xs its hd rv
  rw [Vals.ref1 r]
  refine PySem.W.min_list_data (I.ok.hd hc) pl.isList (x := x) (xs := ds) (as := as) ra f3 (by have := g.un; omega) fun i v h' tk bs e rd hk => ?_
  exact pick_end I rv ra f1 (minD_mem x ds) (by simpa using e) rd hk q
theorem cr_maxD (g : Room k X.A) (hc : X.calm = true) : CallR X (.builtin "max") (rPick X.K PySem.W.maxD) := by
  intro pins s σ H vs us Q I r h
  obtain ⟨a, xs, x, ds, rfl, hs, hd, hf, q⟩ := h
  obtain ⟨its, rv, pl, _⟩ := I.list hs
  obtain ⟨f1, f2, f3⟩ := fine_of hf
  obtain ⟨as, ra⟩ := Dp.readsAll I (x :: ds) xs its hd rv
  rw [Vals.ref1 r]
  refine PySem.W.max_list_data (I.ok.hd hc) pl.isList (x := x) (xs := ds) (as := as) ra f3 (by have := g.un; omega) fun i v h' tk bs e rd hk => ?_
  exact pick_end I rv ra f1 (maxD_mem x ds) (by simpa using e) rd hk q
theorem cs_pick {f : D → List D → D} : CallA K C (rPick K f) (fun | [.list (x :: ds)] => if fine (x :: ds) = true then some (f x ds) else none | _ => none) := by
  intro w st H vs ds d Q k r e q
  match ds, e with
  | [.list (x :: ds)], e =>
    obtain ⟨v, rfl, rv⟩ := r.one
    obtain ⟨a, us, rfl, ha, za, ra⟩ := rv.inL
    simp only at e
    split at e
    · rename_i hf
      cases e
      refine ⟨a, us, x, ds, rfl, SqL.of (k.sub _ _ ha), ra.dp k.sub (fine_of hf).1, hf, fun i v e1 e2 => ?_⟩
      obtain ⟨d', h1, h2⟩ := ra.get e1
      rw [e2] at h1
      cases h1
      exact q.id k h2
    · cases e
theorem cs_min : CallA K C (rPick K PySem.W.minD) gMin := by
  intro w st H vs ds d Q k r e q
  exact cs_pick w st H vs ds d Q k r (by unfold gMin at e; split at e <;> first | exact e | cases e) q
theorem cs_max : CallA K C (rPick K PySem.W.maxD) gMax := by
  intro w st H vs ds d Q k r e q
  exact cs_pick w st H vs ds d Q k r (by unfold gMax at e; split at e <;> first | exact e | cases e) q
end
end BF

/-! BF6: sorted; own defs; what is walked; comprehensions. -/
namespace BF
open PySem L2

/-! ### sorted -/
def rSortD (K : PySem.W.Frag) : List V → Hp → VK → Prop := fun vs H Q => ∃ (a : Addr) (xs : List V) (ds : List D), vs = [.ref a] ∧ SqL K H a xs ∧ DpAll K H xs ds ∧ (fine ds && sortB ds) = true ∧
  ∀ (ys : List (V × D)) (p : Addr), ys.map (·.2) = ds.mergeSort (PySem.W.dataLe false id) → (∀ y ∈ ys, ∃ i : Nat, xs[i]? = some y.1 ∧ ds[i]? = some y.2) → H p = none → Q (.ref p) (upd H p (.lst (ys.map (·.1))))
theorem sortB_of {ds : List D} (h : sortB ds = true) : PySem.W.Sortable ds := by
  unfold sortB at h
  simp only [Bool.or_eq_true, List.all_eq_true] at h
  rcases h with h | h
  · refine .inl fun d hd => ?_
    have := h d hd
    match d, this with
    | .tuple (x :: r), _ => exact ⟨x, r, rfl⟩
  · refine .inr fun d hd => ?_
    have := h d hd
    refine ⟨fun e => ?_, fun xs e => ?_⟩
    · rw [e] at this; cases this
    · rw [e] at this; cases this
theorem eachIs_zip {vs : List V} {us : List Value} {ds : List D} (h : Vals vs us) (hl : vs.length = ds.length) : PySem.W.EachIs (fun u (b : V × D) => RelV b.1 u) us (vs.zip ds) := by
  induction h generalizing ds with
  | nil => exact .nil
  | cons r t ih =>
    cases ds with
    | nil => simp at hl
    | cons d ds => exact .cons r (ih (by simpa using hl))
theorem eachIs_reads {h : Heap} : ∀ {us : List Value} {ds : List D} {as : List Addr} {vs : List V}, ReadsAll h us ds as → vs.length = ds.length → PySem.W.EachIs (fun u (b : V × D) => ∃ as, Reads h u b.2 as) us (vs.zip ds)
  | _, [], _, vs, r, hl => by
    cases r
    cases vs with
    | nil => exact .nil
    | cons v vs => simp at hl
  | _, d :: ds, _, vs, r, hl => by
    cases r with
    | cons h1 h2 =>
      cases vs with
      | nil => simp at hl
      | cons v vs => exact .cons ⟨_, h1⟩ (eachIs_reads h2 (by simpa using hl))
theorem eachIs_vals {us : List Value} {bs : List (V × D)} (h : PySem.W.EachIs (fun u (b : V × D) => RelV b.1 u) us bs) : Vals (bs.map (·.1)) us := by
  induction h with
  | nil => exact .nil
  | cons r t ih => exact .cons r ih
section
variable {X : Cx} {K : PySem.W.Frag} {C : Nat → Addr} {k : Nat}
theorem dpAll_length {H : Hp} {xs : List V} {ds : List D} (h : DpAll K H xs ds) : xs.length = ds.length := by
  induction ds generalizing xs with
  | nil => cases h; rfl
  | cons d ds ih =>
    cases h with
    | cons _ r => simp [ih r]
theorem cr_sortD (g : Room k X.A) : CallR X (.builtin "sorted") (rSortD X.K) := by
  intro pins s σ H vs us Q I r h
  obtain ⟨a, xs, ds, rfl, hs, hd, hf, q⟩ := h
  obtain ⟨hf, hb⟩ := Bool.and_eq_true_iff.mp hf
  obtain ⟨its, rv, pl, hz⟩ := I.list hs
  obtain ⟨f1, f2, f3⟩ := fine_of hf
  obtain ⟨as, ra⟩ := Dp.readsAll I ds xs its hd rv
  have hl := dpAll_length hd
  have e2 : (xs.zip ds).map (fun b : V × D => b.2) = ds := by
    rw [List.map_snd_zip (by omega)]
  rw [Vals.ref1 r]
  refine PySem.W.sorted_data (enc := fun b : V × D => b.2) (R := fun u b => RelV b.1 u) (bs := xs.zip ds) pl.isList (eachIs_zip rv hl) (eachIs_reads ra hl) (by rw [e2]; exact fun d h1 e h2 => f3.1 d h1 e h2) (by rw [e2]; exact sortB_of hb)
    (by rw [List.length_zip]; omega) (fun b hb => by
      have h1 := depth_mem f2 (show b.2 ∈ ds from (List.of_mem_zip (show (b.1, b.2) ∈ xs.zip ds from hb)).2)
      have := g.un
      show X.A.units + 2 + b.2.depth < _
      omega) fun out hlen ho => ?_
  obtain ⟨ep, he'⟩ := PyProof.Rows.sortedAll_at s.heap its out.toArray
  have hv := eachIs_vals ho
  refine ⟨.ref _, upd H (s.heap.objs.size + 1) (.lst (((xs.zip ds).mergeSort (PySem.W.dataLe false fun b => b.2)).map (·.1))), I.laid (t' := s.toks) (fun _ _ => PyProof.Rows.sortedAll_old) (Nat.le_succ _) ⟨?_, out, ep, hv, he'⟩, rfl, ?_⟩
  · rw [List.length_map, List.length_mergeSort, List.length_zip]; omega
  · refine q _ _ ?_ (fun y hy => ?_) (I.hok.fresh (Nat.le_succ _))
    · have := PySem.W.sort_maps (r := PySem.W.dataLe false fun b : V × D => b.2) (s := PySem.W.dataLe false id) (fun b : V × D => b.2) (l := xs.zip ds) (fun _ _ _ _ => rfl)
      rw [this, e2]
    · have hm : y ∈ xs.zip ds := (List.mergeSort_perm _ _).mem_iff.mp hy
      obtain ⟨i, hi, e⟩ := List.getElem_of_mem hm
      rw [List.length_zip] at hi
      rw [List.getElem_zip] at e
      exact ⟨i, by rw [← e]; simp, by rw [← e]; simp⟩
theorem RepA.of_get {N : Nv} : ∀ (ys : List (V × D)), (∀ y ∈ ys, Rep N y.1 y.2) → RepA N (ys.map (·.1)) (ys.map (·.2))
  | [], _ => .nil
  | y :: ys, h => .cons (h y List.mem_cons_self) (RepA.of_get ys fun z hz => h z (List.mem_cons_of_mem _ hz))
theorem cs_sorted : CallL K C (rSortD K) gSorted := by
  intro w st H vs ds xs Q k r e q
  match ds, e with
  | [.list ds], e =>
    obtain ⟨v, rfl, rv⟩ := r.one
    obtain ⟨a, us, rfl, ha, za, ra⟩ := rv.inL
    simp only [gSorted] at e
    split at e
    · rename_i hf
      cases e
      refine ⟨a, us, ds, rfl, SqL.of (k.sub _ _ ha), ra.dp k.sub (fine_of (Bool.and_eq_true_iff.mp hf).1).1, hf, fun ys p e1 e2 hp => ?_⟩
      have r2 : RepA (w.env K C) (ys.map (·.1)) (ys.map (·.2)) := RepA.of_get ys fun y hy => by
        obtain ⟨i, h1, h2⟩ := e2 y hy
        obtain ⟨d, h3, h4⟩ := ra.get h1
        rw [h2] at h3; cases h3
        exact h4
      rw [e1] at r2
      exact raw_lst k r2 (by rw [List.length_mergeSort]; exact za) q hp
    · cases e
end

/-! ### own defs -/
abbrev Fn := List D → Sto → EO D
def FnD (K : PySem.W.Frag) (C : Nat → Addr) (n : Nat) (fn : Fn) : Sp := fun vs H Q E => ∃ w st ds, Ok K C w st H ∧ RepA (w.env K C) vs ds ∧ ds.length = n ∧ match fn ds st with
  | .ok d st' => ∀ v w' H', Grow w H w' H' → Ok K C w' st' H' → Rep (w'.env K C) v d → Q v H'
  | .err c st' => ∀ w' H', Grow w H w' H' → Ok K C w' st' H' → E (.ref (C c)) none H'
  | .bad => False
structure Has (P : Program) (wo : World) (K : PySem.W.Frag) (mg : Str → Option Value) (base : Heap) (C : Nat → Addr) (x : Str) (n k : Nat) (fn : Fn) : Prop where
  ex : ∃ (f : Addr) (fd : FuncData) (ps : List Str), FnOk P wo K mg base (L2.CX P wo) k f fd ps (FnD K C n fn) ∧ mg x = some (.ref f) ∧ PySem.W.keepIn K (.ref f) = true ∧ Binds K fd ps []
def callF (n : Nat) (fn : Fn) (f : AF) : EF := fun ρ st => (f ρ st).bnd fun ds st => if ds.length = n then fn ds st else .bad
section
variable {X : Cx} {C : Nat → Addr} {W : WX} {e : Expr} {es : List Expr} {f : AF} {x : Str} {p pos : Pos} {n k j : Nat} {fn : Fn}
theorem de_call (g : G X C W j) (F : Has X.prog X.w X.K X.mg X.base C x n k fn) (hk : k ≤ j) (ha : DA X C W f (e :: es)) (hg : Gl X x := by rfl) (hdb : (x == ("__debug__" : Str)) = false := by decide)
    (h1 : starEach (e :: es) X.env = (false, eval e X.env) :: starEach es X.env := by rfl) (h2 : (backTo pos (starEach es X.env)).any (·.1) = false := by rfl) : DE X C W (callF n fn f) (.Call (.Name x p) (e :: es) [] pos) := by
  obtain ⟨a, fd, ps, F, hm, hkp, hb⟩ := F.ex
  refine PE.imp (pe_callS (E := fun σ cls d H => W cls d σ H) F (g.room.mono hk) hg hm hkp hb (fun σ => g.pass σ) ha hdb h1 h2) fun σ H Q h => ?_
  obtain ⟨w, st, O, ρ, rel, h⟩ := h
  refine ⟨w, st, O, ρ, rel, (Out.bnd h).mono fun w1 H1 ds st1 g1 k1 h1 vs rv => ?_⟩
  by_cases hn : ds.length = n
  · rw [if_pos hn] at h1
    refine ⟨w1, st1, ds, k1, rv, hn, ?_⟩
    revert h1
    cases fn ds st1 with
    | ok d st2 => exact fun h v w' H' g k r => h w' H' g k v r
    | err c st2 => exact fun h => h
    | bad => exact fun h => h
  · rw [if_neg hn] at h1; exact h1.elim
end

/-! ### what is walked -/
/-- J yields ds from w on, whatever is laid meanwhile -/
def ItOk (K : PySem.W.Frag) (C : Nat → Addr) (w : Wd) (J : It) (ds : List D) : Prop := ∀ w2 st H2, (w.env K C).le (w2.env K C) → Ok K C w2 st H2 →
  (∀ (i : Nat) (d : D), ds[i]? = some d → J.go i H2 ∧ ∀ x H3, J.yld i H2 x H3 → H3 = H2 ∧ ∃ w3, Grow w2 H2 w3 H2 ∧ Ok K C w3 st H2 ∧ Rep (w3.env K C) x d) ∧ ∀ i : Nat, ds.length ≤ i → J.stop i H2
def tI (K : PySem.W.Frag) (C : Nat → Addr) (W : WX) (f : AF) : TI := fun σ H R => ∃ w st O ρ, Rel K C w st O ρ σ H ∧ Out K C W w σ H (f ρ st) fun w' H' ds _ => ds.length ≤ sizeLine → ∀ J, ItOk K C w' J ds → R J H'
def DI (X : Cx) (C : Nat → Addr) (W : WX) (f : AF) (tg e : Expr) : Prop := PI X tg e (tI X.K C W f)
theorem PI.imp {X : Cx} {tg e : Expr} {t t' : TI} (h : PI X tg e t) (k : ∀ σ H R, t' σ H R → t σ H R) : PI X tg e t' := ⟨fun pins s σ H R I q => h.run pins s σ H R I (k σ H R q)⟩
theorem PI.or {X : Cx} {tg e : Expr} {t t' : TI} (h : PI X tg e t) (h' : PI X tg e t') : PI X tg e (fun σ H R => t σ H R ∨ t' σ H R) := ⟨fun pins s σ H R I q => q.elim (fun q => h.run pins s σ H R I q) fun q => h'.run pins s σ H R I q⟩
def signs (x : Str) : List D := x.cps.toList.map fun c => .str ⟨#[c]⟩
def itemsOf : D → Option (List D)
  | .list xs => some xs
  | .tuple xs => some xs
  | .str x => if x.length ≤ sizeLine then some (signs x) else none
  | _ => none
def walk (f : EF) : AF := fun ρ st => (f ρ st).bnd fun d st => .ofO (itemsOf d) st
def rng1 (f : EF) : AF := fun ρ st => (f ρ st).bnd fun d st => match d with
  | .int j => if -1000000 ≤ j ∧ j ≤ 1000000 then .ok ((List.range j.toNat).map fun i => .int (i : Nat)) st else .bad
  | _ => .bad
def rng2 (f g : EF) : AF := fun ρ st => (f ρ st).bnd fun d st => (g ρ st).bnd fun e st => match d, e with
  | .int i, .int j => if -1000000 ≤ i ∧ i ≤ 1000000 ∧ -1000000 ≤ j ∧ j ≤ 1000000 then .ok ((List.range (j - i).toNat).map fun m => .int (i + (m : Nat))) st else .bad
  | _, _ => .bad
section
variable {X : Cx} {C : Nat → Addr} {W : WX} {a b tg : Expr} {fa fb : EF} {p pos : Pos}
theorem itl_ok {w : Wd} {K : PySem.W.Frag} {c : Addr} {vs : List V} {ds : List D} (ha : w.F c = some (.lst vs)) (r : RepA (w.env K C) vs ds) : ItOk K C w (Itl K c) ds := by
  intro w2 st H2 hle k2
  have hs : SqL K H2 c vs := SqL.of (k2.sub _ _ (hle.F _ _ ha))
  refine ⟨fun i d hd => ?_, fun i hi => ⟨vs, hs, by rw [r.length]; exact hi⟩⟩
  obtain ⟨v, hv, rv⟩ := r.getD hd
  refine ⟨⟨vs, v, hs, hv⟩, fun x H3 y => ⟨y.1, w2, .refl _ _, k2, ?_⟩⟩
  have := y.2 vs hs
  rw [hv] at this
  cases this
  exact rv.le hle
theorem itt_ok {w : Wd} {K : PySem.W.Frag} {c : Addr} {vs : List V} {ds : List D} (ha : w.F c = some (.tup vs)) (r : RepA (w.env K C) vs ds) : ItOk K C w (Itt K c) ds := by
  intro w2 st H2 hle k2
  have hs : SqT K H2 c vs := SqT.of (k2.sub _ _ (hle.F _ _ ha))
  refine ⟨fun i d hd => ?_, fun i hi => ⟨vs, hs, by rw [r.length]; exact hi⟩⟩
  obtain ⟨v, hv, rv⟩ := r.getD hd
  refine ⟨⟨vs, v, hs, hv⟩, fun x H3 y => ⟨y.1, w2, .refl _ _, k2, ?_⟩⟩
  have := y.2 vs hs
  rw [hv] at this
  cases this
  exact rv.le hle
theorem itr_ok {w : Wd} {K : PySem.W.Frag} {lo : Int} {n : Nat} {ds : List D} (e : ds = (List.range n).map fun m => .int (lo + (m : Nat))) : ItOk K C w (Itr lo n) ds := by
  intro w2 st H2 hle k2
  subst e
  refine ⟨fun i d hd => ?_, fun i hi => by
    have h' : n ≤ i := by simpa using hi
    exact h'⟩
  simp only [List.getElem?_map, Option.map_eq_some_iff] at hd
  obtain ⟨m, hm, rfl⟩ := hd
  have hi : i < n := by
    have := (List.getElem?_eq_some_iff.mp hm).1
    simpa using this
  have hmi : m = i := by
    have := (List.getElem?_eq_some_iff.mp hm).2
    simp at this
    exact this.symm
  subst hmi
  refine ⟨hi, fun x H3 y => ⟨y.1, w2, .refl _ _, k2, ?_⟩⟩
  rw [y.2]
  exact .int _
theorem its_ok {w : Wd} {K : PySem.W.Frag} (y : Str) : ItOk K C w (Its y) (signs y) := by
  intro w2 st H2 hle k2
  unfold signs
  refine ⟨fun i d hd => ?_, fun i hi => by
    have h' : y.cps.size ≤ i := by simpa using hi
    exact h'⟩
  simp only [List.getElem?_map, Option.map_eq_some_iff] at hd
  obtain ⟨c, hc, rfl⟩ := hd
  have hc' : y.cps[i]? = some c := by simpa using hc
  refine ⟨(Array.getElem?_eq_some_iff.mp hc').1, fun x H3 ⟨e, c', h1, h2⟩ => ⟨e, w2, .refl _ _, k2, ?_⟩⟩
  rw [hc'] at h1
  cases h1
  rw [h2]
  exact .str _
theorem di_walk (ha : DE X C W fa a) : DI X C W (walk fa) tg a := by
  refine PI.imp (PI.or (pi_list ha) (PI.or (pi_tup ha) (pi_str ha))) fun σ H R h => ?_
  obtain ⟨w, st, O, ρ, rel, h⟩ := h
  have h0 := Out.bnd h
  cases e : fa ρ st with
  | bad => rw [e] at h0; exact h0.elim
  | err c st1 =>
    rw [e] at h0
    exact .inl ⟨w, st, O, ρ, rel, by rw [e]; exact h0⟩
  | ok d st1 =>
    rw [e] at h0
    cases d with
    | list xs =>
      refine .inl ⟨w, st, O, ρ, rel, ?_⟩
      rw [e]
      refine fun w1 H1 g1 k1 v rv => ?_
      obtain ⟨c, vs, rfl, hc, z, r⟩ := rv.inL
      have h1 := Out.here (h0 w1 H1 g1 k1) k1
      exact ⟨c, rfl, ⟨vs, SqL.of (k1.sub _ _ hc)⟩, h1 z _ (itl_ok hc r)⟩
    | tuple xs =>
      refine .inr (.inl ⟨w, st, O, ρ, rel, ?_⟩)
      rw [e]
      refine fun w1 H1 g1 k1 v rv => ?_
      obtain ⟨c, vs, rfl, hc, z, r⟩ := rv.inT
      have h1 := Out.here (h0 w1 H1 g1 k1) k1
      exact ⟨c, rfl, ⟨vs, SqT.of (k1.sub _ _ hc)⟩, h1 z _ (itt_ok hc r)⟩
    | str y =>
      refine .inr (.inr ⟨w, st, O, ρ, rel, ?_⟩)
      rw [e]
      refine fun w1 H1 g1 k1 v rv => ?_
      cases rv.inS
      have h1 := h0 w1 H1 g1 k1
      simp only [itemsOf] at h1
      split at h1
      · rename_i hz
        have h2 := Out.here h1 k1
        exact ⟨y, rfl, h2 (by unfold signs; rw [List.length_map]; exact hz) _ (its_ok y)⟩
      · exact h1.elim
    | _ => exact .inl ⟨w, st, O, ρ, rel, by rw [e]; exact fun w1 H1 g1 k1 v rv => (h0 w1 H1 g1 k1).elim⟩
theorem di_rng1 (hm : X.mg "range" = none) (ha : DE X C W fa a) (hg : Gl X "range" := by rfl) (hs : starEach [a] X.env = [(false, eval a X.env)] := by rfl) : DI X C W (rng1 fa) tg (.Call (.Name "range" p) [a] [] pos) := by
  refine PI.imp (pi_range1 hg hm (pa_cons ha pa_nil (by first | exact hs | rfl)) hs) fun σ H R h => ?_
  obtain ⟨w, st, O, ρ, rel, h⟩ := h
  refine ⟨w, st, O, ρ, rel, (Out.bnd h).mono fun w1 H1 d st1 g1 k1 h1 v rv => ?_⟩
  cases d with
  | int j =>
    cases rv.inI
    simp only at h1
    split at h1
    · have h2 := Out.here h1 k1
      exact ⟨j, rfl, by omega, by omega, h2 (by have := size_line; simp; omega) _ (itr_ok (by simp))⟩
    · exact h1.elim
  | _ => exact h1.elim
theorem di_rng2 (hm : X.mg "range" = none) (ha : DE X C W fa a) (hb : DE X C W fb b) (hg : Gl X "range" := by rfl) (hs : starEach [a, b] X.env = [(false, eval a X.env), (false, eval b X.env)] := by rfl) (hs2 : starEach [b] X.env = [(false, eval b X.env)] := by rfl)
    (hs3 : starEach (a :: [b]) X.env = (false, eval a X.env) :: starEach [b] X.env := by rfl) : DI X C W (rng2 fa fb) tg (.Call (.Name "range" p) [a, b] [] pos) := by
  refine PI.imp (pi_range2 hg hm (pa_cons ha (pa_cons hb pa_nil hs2) hs3) hs hs2) fun σ H R h => ?_
  obtain ⟨w, st, O, ρ, rel, h⟩ := h
  refine ⟨w, st, O, ρ, rel, (Out.bnd h).mono fun w1 H1 d st1 g1 k1 h1 v rv => ?_⟩
  refine ⟨w1, st1, O, ρ, rel.grow g1 k1, (Out.bnd h1).mono fun w2 H2 e st2 g2 k2 h2 u ru => ?_⟩
  cases d <;> cases e <;> try exact h2.elim
  rename_i i j
  cases rv.inI; cases ru.inI
  simp only at h2
  split at h2
  · have h3 := Out.here h2 k2
    exact ⟨i, j, rfl, by omega, h3 (by have := size_line; simp; omega) _ (itr_ok rfl)⟩
  · exact h2.elim
end

/-! ### targets -/
inductive Tgt
  | nm (j : Nat)
  | tp (js : List Nat)
def Tgt.js : Tgt → List Nat
  | .nm j => [j]
  | .tp js => js
def setAll : List Nat → List D → Slots → Option Slots
  | [], [], ρ => some ρ
  | j :: js, d :: ds, ρ => setAll js ds (ρ.set j (.val d))
  | _, _, _ => none
def Tgt.set : Tgt → D → Slots → Option Slots
  | .nm j, d, ρ => some (ρ.set j (.val d))
  | .tp js, .tuple ds, ρ => setAll js ds ρ
  | _, _, _ => none
def clr (O : Nat → List Addr) (i : Nat) : Nat → List Addr := fun j => if j = i then [] else O j
theorem clr_sub {O : Nat → List Addr} {i j : Nat} {a : Addr} (h : a ∈ clr O i j) : a ∈ O j := by
  unfold clr at h
  split at h
  · simp at h
  · exact h
section
variable {K : PySem.W.Frag} {C : Nat → Addr} {w : Wd} {st : Sto} {O : Nat → List Addr} {ρ : Slots} {σ : St} {H : Hp}
theorem Rel.setTo (r : Rel K C w st O ρ σ H) (i : Nat) {s : Slot} {o : Option V} (h : SlotOk (w.env K C) H [] o s) : Rel K C w st (clr O i) (ρ.set i s) (σ.set i o) H where
  ok := r.ok
  len := by simpa using r.len
  slot := fun j s' e => by
    by_cases hj : j = i
    · subst hj
      by_cases hl : j < ρ.length
      · rw [List.getElem?_set_self hl] at e
        cases e
        exact ⟨o, by rw [List.getElem?_set_self (by rw [r.len]; exact hl)], by unfold clr; rw [if_pos rfl]; exact h⟩
      · rw [List.getElem?_eq_none (by simp; omega)] at e; cases e
    · rw [List.getElem?_set_ne (Ne.symm hj)] at e
      obtain ⟨v, e1, h1⟩ := r.slot j s' e
      exact ⟨v, by rw [List.getElem?_set_ne (Ne.symm hj)]; exact e1, by unfold clr; rw [if_neg hj]; exact h1⟩
  out := fun j hj => by
    unfold clr
    split
    · rfl
    · exact r.out j (by simpa using hj)
  ofz := fun j a h => r.ofz j a (clr_sub h)
  dj := fun j l a h1 h2 => r.dj j l a (clr_sub h1) (clr_sub h2)
theorem Rel.setVal (r : Rel K C w st O ρ σ H) (i : Nat) {v : V} {d : D} (h : Rep (w.env K C) v d) : Rel K C w st (clr O i) (ρ.set i (.val d)) (σ.set i (some v)) H := r.setTo i ⟨rfl, v, rfl, h⟩
def wipeS (ρ : Slots) : List Nat → Slots
  | [] => ρ
  | v :: vs => (wipeS ρ vs).set v .emp
def clrs (O : Nat → List Addr) : List Nat → Nat → List Addr
  | [] => O
  | v :: vs => clr (clrs O vs) v
theorem Rel.wipe (r : Rel K C w st O ρ σ H) : ∀ vs : List Nat, Rel K C w st (clrs O vs) (wipeS ρ vs) (L2.wipe σ vs) H
  | [] => r
  | v :: vs => (r.wipe vs).setTo v rfl
theorem wipe_at {σ : St} {j : Nat} : ∀ {vs : List Nat} (k : Nat), j ∈ vs → (L2.wipe σ vs)[j]? = (if j < σ.length then some none else none)
  | [], _, h => by simp at h
  | v :: vs, k, h => by
    have hl := wipe_length σ vs
    show ((L2.wipe σ vs).set v none)[j]? = _
    by_cases e : v = j
    · subst e
      by_cases hv : v < σ.length
      · rw [List.getElem?_set_self (by omega), if_pos hv]
      · rw [List.getElem?_eq_none (by simp; omega), if_neg hv]
    · rw [List.getElem?_set_ne e]
      exact wipe_at k ((List.mem_cons.mp h).resolve_left fun q => e q.symm)
theorem wipe_set {σ : St} {j : Nat} {o : Option V} : ∀ {vs : List Nat}, j ∈ vs → L2.wipe (σ.set j o) vs = L2.wipe σ vs := fun {vs} h => by
  have aux : ∀ (vs : List Nat) (i : Nat), i ≠ j → (L2.wipe (σ.set j o) vs)[i]? = (L2.wipe σ vs)[i]? := fun vs i hi => by
    induction vs with
    | nil => exact List.getElem?_set_ne (Ne.symm hi)
    | cons v vs ih =>
      show ((L2.wipe (σ.set j o) vs).set v none)[i]? = ((L2.wipe σ vs).set v none)[i]?
      by_cases e : v = i
      · subst e
        have l1 := wipe_length (σ.set j o) vs
        have l2 := wipe_length σ vs
        rw [List.length_set] at l1
        by_cases hv : v < σ.length
        · rw [List.getElem?_set_self (by omega), List.getElem?_set_self (by omega)]
        · rw [List.getElem?_eq_none (by simp; omega), List.getElem?_eq_none (by simp; omega)]
      · rw [List.getElem?_set_ne e, List.getElem?_set_ne e]; exact ih
  apply List.ext_getElem?
  intro i
  by_cases hi : i = j
  · subst hi
    rw [wipe_at 0 h, wipe_at 0 h, List.length_set]
  · exact aux vs i hi
end
theorem wipe_idem (σ : St) (vs : List Nat) : L2.wipe (L2.wipe σ vs) vs = L2.wipe σ vs := by
  apply List.ext_getElem?
  intro i
  by_cases hi : i ∈ vs
  · rw [wipe_at 0 hi, wipe_at 0 hi, wipe_length]
  · rw [wipe_out hi]
section
variable (K : PySem.W.Frag) (C : Nat → Addr)
def tG (t : Tgt) : TG := fun v σ H Q => ∃ w st O ρ d, Rel K C w st O ρ σ H ∧ Rep (w.env K C) v d ∧ match t.set d ρ with
  | some ρ' => ∀ O' σ', (∀ vs, (∀ j ∈ t.js, j ∈ vs) → L2.wipe σ' vs = L2.wipe σ vs) → (∀ i a, a ∈ O' i → a ∈ O i) → Rel K C w st O' ρ' σ' H → Q σ' H
  | none => False
def gNames : List Nat → TGs
  | [] => gNil
  | j :: js => gCons (gName j) (gNames js)
end
theorem PG.imp {X : Cx} {e : Expr} {t t' : TG} (h : PG X e t) (k : ∀ v σ H Q, t' v σ H Q → t v σ H Q) : PG X e t' := ⟨fun pins s σ H v u Q I r q => h.run pins s σ H v u Q I r (k v σ H Q q)⟩
def DG (X : Cx) (C : Nat → Addr) (t : Tgt) (e : Expr) : Prop := PG X e (tG X.K C t)
section
variable {X : Cx} {C : Nat → Addr} {pos : Pos} {es : List Expr} {js : List Nat}
theorem dg_nm (i : Nat) {x : Str} (hN : X.N.Nodup) (hi : X.N[i]? = some x := by rfl) (hx : Loc X.env.scope x := by first | exact .inl rfl | exact .inr rfl) (hf : X.fn x = true ∨ X.env.scope.names.lookup x = some .local := by first | exact .inl rfl | exact .inr rfl) : DG X C (.nm i) (.Name x pos) :=
  PG.imp (pg_name hN hi hx hf) fun v σ H Q h => by
    obtain ⟨w, st, O, ρ, d, r, rv, h⟩ := h
    exact h _ _ (fun vs hv => wipe_set (hv i (by simp [Tgt.js]))) (fun j a ha => clr_sub ha) (r.setVal i rv)
theorem setAll_imp {K : PySem.W.Frag} : ∀ {js : List Nat} {vs : List V} {ds : List D} {w : Wd} {st : Sto} {O : Nat → List Addr} {ρ : Slots} {σ : St} {H : Hp} {Q : St → Hp → Prop}, Rel K C w st O ρ σ H → RepA (w.env K C) vs ds →
    (match setAll js ds ρ with
      | some ρ' => ∀ O' σ', (∀ vs, (∀ j ∈ js, j ∈ vs) → L2.wipe σ' vs = L2.wipe σ vs) → (∀ i a, a ∈ O' i → a ∈ O i) → Rel K C w st O' ρ' σ' H → Q σ' H
      | none => False) → gNames js vs σ H Q
  | [], vs, ds, w, st, O, ρ, σ, H, Q, r, rv, h => by
    cases rv with
    | nil => exact ⟨rfl, h O σ (fun _ _ => rfl) (fun _ _ h => h) r⟩
    | cons _ _ => exact h.elim
  | j :: js, vs, ds, w, st, O, ρ, σ, H, Q, r, rv, h => by
    cases rv with
    | nil => exact h.elim
    | cons r1 r2 =>
      refine ⟨_, _, rfl, ?_⟩
      refine setAll_imp (js := js) (r.setVal j r1) r2 ?_
      simp only [setAll] at h
      revert h
      split
      · exact fun h O' σ' h1 h2 h3 => h O' σ' (fun vs hv => by rw [h1 vs fun j hj => hv j (List.mem_cons_of_mem _ hj), wipe_set (hv j List.mem_cons_self)]) (fun i a ha => clr_sub (h2 i a ha)) h3
      · exact fun h => h
theorem dg_tp {k : Nat} (hc : X.calm = true) (h : PGs X es (gNames js)) (hn : (assignEach es X.env).length = js.length := by rfl) (hst : (assignEach es X.env).findIdx? (·.1) = none := by rfl) : DG X C (.tp js) (.Tuple es k pos) :=
  PG.imp (pg_tup (n := js.length) hc h hn hst) fun v σ H Q h => by
    obtain ⟨w, st, O, ρ, d, r, rv, h⟩ := h
    cases d with
    | tuple ds =>
      obtain ⟨a, vs, rfl, ha, z, ra⟩ := rv.inT
      have hlen : ∀ (js : List Nat) (ds : List D) (ρ : Slots) (ρ' : Slots), setAll js ds ρ = some ρ' → ds.length = js.length := fun js => by
        induction js with
        | nil => intro ds ρ ρ' e; cases ds <;> simp [setAll] at e ⊢
        | cons j js ih =>
          intro ds ρ ρ' e
          cases ds with
          | nil => simp [setAll] at e
          | cons d ds => simp [setAll] at e; simp [ih _ _ _ e]
      have h' : (match setAll js ds ρ with
        | some ρ' => ∀ O' σ', (∀ vs, (∀ j ∈ js, j ∈ vs) → L2.wipe σ' vs = L2.wipe σ vs) → (∀ i a, a ∈ O' i → a ∈ O i) → Rel X.K C w st O' ρ' σ' H → Q σ' H
        | none => False) := h
      refine ⟨a, vs, rfl, SqT.of (r.ok.sub _ _ ha), ?_, setAll_imp r ra h'⟩
      rw [ra.length]
      cases e : setAll js ds ρ with
      | none => rw [e] at h'; exact h'.elim
      | some ρ' => exact hlen _ _ _ _ e
    | _ => exact h.elim
end

/-! ### comprehensions -/
def noErr {α : Type} : EO α → EO α
  | .ok a st => .ok a st
  | _ => .bad
def lcLoop (tg : Tgt) (tt : TF) (te : EF) : List D → Slots → Sto → List D → EO (List D)
  | [], _, st, acc => .ok acc st
  | d :: ds, ρ, st, acc => match tg.set d ρ with
    | none => .bad
    | some ρ' => (noErr (tt ρ' st)).bnd fun b st => if b = true then (noErr (te ρ' st)).bnd fun y st => lcLoop tg tt te ds ρ st (acc ++ [y]) else lcLoop tg tt te ds ρ st acc
def lcF (fi : AF) (tg : Tgt) (vs : List Nat) (tt : TF) (te : EF) : AF := fun ρ st => (fi ρ st).bnd fun ds st => lcLoop tg tt te ds (wipeS ρ vs) st []
def yesT : TF := fun _ st => .ok true st
abbrev WF : WX := fun _ _ _ _ => False
section
variable {K : PySem.W.Frag} {C : Nat → Addr} {w w0 : Wd} {st : Sto} {H H0 : Hp}
/-- an object that nobody else knows is changed -/
theorem Grow.upd (g : Grow w0 H0 w H) {p : Addr} {o : HO} (h0 : H0 p = none) : Grow w0 H0 w (L2.upd H p o) where
  ext := g.ext
  newF := g.newF
  newP := g.newP
  keep := fun a u h n => by rw [upd_ne (ne_of_none h h0)]; exact g.keep a u h n
  mono := fun a h => by
    by_cases e : a = p
    · rw [e, upd_same] at h; cases h
    · rw [upd_ne e] at h; exact g.mono a h
  pre := g.pre
theorem Ok.upd (k : Ok K C w st H) {p : Addr} {o : HO} (hf : w.F p = none) (hi : ¬ w.In p) : Ok K C w st (L2.upd H p o) where
  sub := fun a u h => by rw [upd_ne (fun e => by rw [e, hf] at h; cases h)]; exact k.sub a u h
  dj := k.dj
  nd := k.nd
  ndd := k.ndd
  len := k.len
  obs := fun i fp ob h1 h2 => (k.obs i fp ob h1 h2).le (.refl _) fun a ha u hu => by
    rw [upd_ne (fun e : a = p => hi ⟨fp, List.mem_of_getElem? h1, by rw [← e]; exact ha⟩)]; exact hu
theorem Grow.apart (g : Grow w0 H0 w H) (k : Ok K C w st H) {p : Addr} {u : HO} (h : H0 p = some u) (hf : w0.F p = none) (hi : ¬ w0.In p) (hu : ∀ xs, u ≠ .tup xs := by intro _ q; cases q) : H p = some u ∧ w.F p = none ∧ ¬ w.In p := by
  refine ⟨g.keep p u h hi, ?_, fun q => ?_⟩
  · cases e : w.F p with
    | none => rfl
    | some o =>
      rcases g.newF p o e with z | z | ⟨xs, z⟩
      · rw [hf] at z; cases z
      · rw [h] at z; cases z
      · subst z
        exact absurd (Option.some.inj ((g.keep p u h hi).symm.trans (k.sub _ _ e))) (hu xs)
  · rcases g.newP p q with z | z
    · exact hi z
    · rw [h] at z; cases z
end
theorem lc_imp {K : PySem.W.Frag} {C : Nat → Addr} {W : WX} {fi : AF} {tg : Tgt} {vs : List Nat} {tt : TF} {te : EF} (hj : ∀ j ∈ tg.js, j ∈ vs) {σ : St} {H : Hp} {Q : VK} (h : tL K C W (lcF fi tg vs tt te) σ H Q) :
    tLc (tI K C W fi) (tG K C tg) (tT K C WF tt) (tE K C WF te) vs σ H Q := by
  obtain ⟨w, st, O, ρ, rel, h⟩ := h
  refine ⟨w, st, O, ρ, rel, (Out.bnd h).mono fun w1 H1 ds st1 g1 k1 h1 hz J hJ D hD => ?_⟩
  have rel1 := (rel.grow g1 k1).wipe vs
  have hH : H D = none := g1.mono D hD
  have hFD : w1.F D = none := by
    cases q : w1.F D with
    | none => rfl
    | some u => rw [k1.sub D u q] at hD; cases hD
  have hID : ¬ w1.In D := fun q => by
    obtain ⟨u, hu⟩ := k1.tracked q
    rw [hD] at hu; cases hu
  refine ⟨fun i m H' => m = ds.length - i ∧ i ≤ ds.length ∧ ∃ w st acc vacc, Grow w1 H1 w H' ∧ Ok K C w st H' ∧ w.F D = none ∧ ¬ w.In D ∧ H' D = some (.lst vacc) ∧ RepA (w.env K C) vacc acc ∧ acc.length ≤ i ∧
    Out K C W w1 σ H1 (lcLoop tg tt te (ds.drop i) (wipeS ρ vs) st acc) (fun w' H' ds _ => ∀ p vs, H p = none → w'.F p = none → ¬ w'.In p → H' p = some (.lst vs) → ds.length ≤ sizeLine → RepA (w'.env K C) vs ds → Q (.ref p) H'),
    ⟨_, rfl, Nat.zero_le _, w1, st1, [], [], Grow.raw k1 hD, Ok.raw k1 hD, hFD, hID, upd_same, .nil, Nat.le_refl _, h1⟩, ?_⟩
  rintro i m H' ⟨rfl, hi, w', st', acc, vacc, gg, kk, f1, f2, f3, f4, f5, f6⟩
  have relW := rel1.grow gg kk
  have J1 := hJ w' st' H' (gg.le K C) kk
  by_cases hlt : i < ds.length
  · refine .inr ?_
    have hd : ds[i]? = some ds[i] := by simp [hlt]
    refine ⟨(J1.1 i _ hd).1, fun H' => ∃ w st acc vacc, Grow w1 H1 w H' ∧ Ok K C w st H' ∧ w.F D = none ∧ ¬ w.In D ∧ H' D = some (.lst vacc) ∧ RepA (w.env K C) vacc acc ∧ acc.length ≤ i + 1 ∧
      Out K C W w1 σ H1 (lcLoop tg tt te (ds.drop (i + 1)) (wipeS ρ vs) st acc) (fun w' H' ds _ => ∀ p vs, H p = none → w'.F p = none → ¬ w'.In p → H' p = some (.lst vs) → ds.length ≤ sizeLine → RepA (w'.env K C) vs ds → Q (.ref p) H'),
      fun H2 n => ⟨ds.length - (i + 1), by omega, rfl, by omega, n⟩, fun x H3 y => ?_⟩
    obtain ⟨rfl, wk, gk, ok', rx⟩ := (J1.1 i _ hd).2 x H3 y
    obtain ⟨f3, f1, f2⟩ := gk.apart ok' f3 f1 f2
    have f4 := f4.le (gk.le K C)
    have gg := gg.trans gk
    have relW := relW.grow gk ok'
    clear kk
    rw [List.drop_eq_getElem_cons hlt] at f6
    refine ⟨wk, st', _, _, ds[i], relW, rx, ?_⟩
    unfold lcLoop at f6
    revert f6
    cases tg.set ds[i] (wipeS ρ vs) with
    | none => exact fun f6 => f6.elim
    | some ρ' =>
      intro f6 O' σ' hw hO rel'
      refine ⟨by rw [hw vs hj, wipe_idem], wk, st', O', ρ', rel', ?_⟩
      revert f6
      simp only
      cases tt ρ' st' with
      | err c st2 => exact fun f6 => f6.elim
      | bad => exact fun f6 => f6.elim
      | ok b st2 =>
        intro f6 w2 H2 g2 k2
        obtain ⟨d3, d1, d2⟩ := g2.apart k2 f3 f1 f2
        have f6 : Out K C W w1 σ H1 (if b = true then (noErr (te ρ' st2)).bnd fun y st => lcLoop tg tt te (ds.drop (i + 1)) (wipeS ρ vs) st (acc ++ [y]) else lcLoop tg tt te (ds.drop (i + 1)) (wipeS ρ vs) st2 acc) _ := f6
        cases b with
        | false =>
          rw [if_neg Bool.false_ne_true] at f6 ⊢
          exact ⟨w2, st2, acc, vacc, gg.trans g2, k2, d1, d2, d3, f4.le (g2.le K C), by omega, f6⟩
        | true =>
          rw [if_pos rfl] at f6 ⊢
          refine ⟨w2, st2, O', ρ', rel'.grow g2 k2, ?_⟩
          revert f6
          cases te ρ' st2 with
          | err c st3 => exact fun f6 => f6.elim
          | bad => exact fun f6 => f6.elim
          | ok y st3 =>
            intro f6 w3 H3 g3 k3 v rv
            obtain ⟨e3, e1, e2⟩ := g3.apart k3 d3 d1 d2
            have r3 : RepA (w3.env K C) vacc acc := (f4.le (g2.le K C)).le (g3.le K C)
            refine ⟨vacc, e3, by rw [r3.length]; omega, w3, st3, acc ++ [y], vacc ++ [v], ((gg.trans g2).trans g3).upd hD, k3.upd e1 e2, e1, e2, upd_same, r3.append (.cons rv .nil), by simp; omega, f6⟩
  · have e : i = ds.length := by omega
    subst e
    rw [List.drop_length] at f6
    exact .inl ⟨J1.2 _ (Nat.le_refl _), f6 w' H' gg kk D vacc hH f1 f2 f3 (by omega) f4⟩
section
variable {X : Cx} {C : Nat → Addr} {W : WX} {k : Nat} {elt tg iter : Expr} {ifs : List Expr} {scope : Scope} {own : List (Str × Nat)} {pos : Pos} {fi : AF} {t : Tgt} {tt : TF} {te : EF}
/-- the context of a block -/
theorem G.blk (g : G X C W k) (s : Shared) (H : Hp) (scope : Scope) (ce : Env) (fp : List Addr) : G (X.blk s H scope ce fp) C WF k :=
  ⟨g.calm, g.nd, g.room, takes0, PassesOwn.never⟩
def DTs (X : Cx) (C : Nat → Addr) (W : WX) (f : TF) (ifs : List Expr) : Prop := PTs X ifs (tT X.K C W f)
theorem dts_nil : DTs X C W yesT [] := ⟨fun pins s σ H Q I h => pts_nil.run pins s σ H Q I (by
  obtain ⟨w, st, O, ρ, rel, h⟩ := h
  exact Out.here h rel.ok)⟩
theorem dts_one {c : Expr} (h : DT X C W tt c) : DTs X C W tt [c] := pts_one h
theorem dl_lc (own : List (Str × Nat)) (g : G X C W k) (hj : ∀ j ∈ t.js, j ∈ own.map (·.2)) (hi : DI X C W fi tg iter) (ok : blkC X.N X.env.scope scope own = true)
    (hg : ∀ (s : Shared) (H : Hp) (D : Addr) (cl : List (Str × Addr)) (fp : List Addr), DG (X.blk s H scope (compEnvC scope cl D X.env) fp) C t tg)
    (ht : ∀ (s : Shared) (H : Hp) (D : Addr) (cl : List (Str × Addr)) (fp : List Addr), G (X.blk s H scope (compEnvC scope cl D X.env) fp) C WF k → DTs (X.blk s H scope (compEnvC scope cl D X.env) fp) C WF tt ifs)
    (he : ∀ (s : Shared) (H : Hp) (D : Addr) (cl : List (Str × Addr)) (fp : List Addr), G (X.blk s H scope (compEnvC scope cl D X.env) fp) C WF k → DE (X.blk s H scope (compEnvC scope cl D X.env) fp) C WF te elt)
    (hs : ∀ x, foldedSetIterable iter X.env x = pure x := by intro _; rfl) : DL X C W (lcF fi t (own.map (·.2)) tt te) (.ListComp elt [⟨tg, iter, ifs, 0⟩] scope pos) :=
  PE.imp (pe_lc (g := tG X.K C t) (tt := tT X.K C WF tt) (te := tE X.K C WF te) g.calm g.nd hi (blkOk_by ok) hg (fun s H D cl fp => ht s H D cl fp (g.blk ..)) (fun s H D cl fp => he s H D cl fp (g.blk ..)) hs) fun _ _ _ h => lc_imp hj h
end
end BF

/-! BF7: statements; defs. -/
namespace BF
open PySem L2

inductive SO
  | nx (ρ : Slots) (st : Sto)
  | rt (d : D) (st : Sto)
  | bk (ρ : Slots) (st : Sto)
  | ct (ρ : Slots) (st : Sto)
  | err (c : Nat) (ρ : Slots) (st : Sto)
  | bad
abbrev SF := Slots → Sto → SO
def SO.ofE {α : Type} (x : EO α) (ρ : Slots) (k : α → Sto → SO) : SO := match x with
  | .ok a st => k a st
  | .err c st => .err c ρ st
  | .bad => .bad
@[simp] theorem SO.ofE_ok {α : Type} (a : α) (st : Sto) (ρ : Slots) (k : α → Sto → SO) : SO.ofE (.ok a st) ρ k = k a st := rfl
@[simp] theorem SO.ofE_err {α : Type} (c : Nat) (st : Sto) (ρ : Slots) (k : α → Sto → SO) : SO.ofE (.err c st) ρ k = .err c ρ st := rfl
@[simp] theorem SO.ofE_bad {α : Type} (ρ : Slots) (k : α → Sto → SO) : SO.ofE (.bad : EO α) ρ k = .bad := rfl

structure RelS (K : PySem.W.Frag) (C : Nat → Addr) (w0 : Wd) (H0 : Hp) (N0 : Nv) (w : Wd) (st : Sto) (O : Nat → List Addr) (ρ : Slots) (σ : St) (H : Hp) : Prop where
  rel : Rel K C w st O ρ σ H
  grow : Grow w0 H0 w H
  new : ∀ (i : Nat) (a : Addr), a ∈ O i → H0 a = none
  le : N0.le (w.env K C)
def OutS (K : PySem.W.Frag) (C : Nat → Addr) (W : WX) (w0 : Wd) (H0 : Hp) (N0 : Nv) (o : SO) (D : Ends) : Prop := match o with
  | .nx ρ st => ∀ w O σ H, RelS K C w0 H0 N0 w st O ρ σ H → D.nx σ H
  | .rt d st => ∀ v w H, Grow w0 H0 w H → Ok K C w st H → Rep (w.env K C) v d → D.rt v H
  | .bk ρ st => ∀ w O σ H, RelS K C w0 H0 N0 w st O ρ σ H → D.bk σ H
  | .ct ρ st => ∀ w O σ H, RelS K C w0 H0 N0 w st O ρ σ H → D.ct σ H
  | .err c ρ st => ∀ w O σ H, RelS K C w0 H0 N0 w st O ρ σ H → W (.ref (C c)) none σ H
  | .bad => False
def tS (K : PySem.W.Frag) (C : Nat → Addr) (W : WX) (w0 : Wd) (H0 : Hp) (N0 : Nv) (f : SF) : TS := fun D σ H => ∃ w st O ρ, RelS K C w0 H0 N0 w st O ρ σ H ∧ OutS K C W w0 H0 N0 (f ρ st) D
theorem PS.imp {X : Cx} {e : Stmt} {t t' : TS} (h : PS X e t) (k : ∀ D σ H, t' D σ H → t D σ H) : PS X e t' := ⟨fun pins s σ H D I q => h.run pins s σ H D I (k D σ H q)⟩
theorem PSs.imp {X : Cx} {e : List Stmt} {t t' : TS} (h : PSs X e t) (k : ∀ D σ H, t' D σ H → t D σ H) : PSs X e t' := ⟨fun pins s σ H D I q => h.run pins s σ H D I (k D σ H q)⟩
section
variable (X : Cx) (C : Nat → Addr) (W : WX)
def DS (f : SF) (e : Stmt) : Prop := ∀ w0 H0 N0, PS X e (tS X.K C W w0 H0 N0 f)
def DSs (f : SF) (e : List Stmt) : Prop := ∀ w0 H0 N0, PSs X e (tS X.K C W w0 H0 N0 f)
end
section
variable {K : PySem.W.Frag} {C : Nat → Addr} {W : WX} {w0 w w' : Wd} {H0 H H' : Hp} {N0 N1 : Nv} {st st' : Sto} {O : Nat → List Addr} {ρ : Slots} {σ : St} {D : Ends}
theorem RelS.growE (r : RelS K C w0 H0 N0 w st O ρ σ H) (g : Grow w H w' H') (k : Ok K C w' st' H') : RelS K C w0 H0 N0 w' st' O ρ σ H' :=
  ⟨r.rel.grow g k, r.grow.trans g, r.new, r.le.trans (g.le K C)⟩
theorem RelS.weak (r : RelS K C w0 H0 N1 w st O ρ σ H) (h : N0.le N1) : RelS K C w0 H0 N0 w st O ρ σ H := ⟨r.rel, r.grow, r.new, h.trans r.le⟩
theorem RelS.to (r : RelS K C w0 H0 N0 w st O ρ σ H) {O' : Nat → List Addr} {ρ' : Slots} {σ' : St} (q : Rel K C w st O' ρ' σ' H) (h : ∀ i a, a ∈ O' i → a ∈ O i) : RelS K C w0 H0 N0 w st O' ρ' σ' H := ⟨q, r.grow, fun i a ha => r.new i a (h i a ha), r.le⟩
theorem ofE_imp {α : Type} {x : EO α} {k : α → Sto → SO} (h : OutS K C W w0 H0 N0 (SO.ofE x ρ k) D) (r : RelS K C w0 H0 N0 w st O ρ σ H) :
    Out K C W w σ H x fun w' H' a st' => RelS K C w0 H0 N0 w' st' O ρ σ H' ∧ OutS K C W w0 H0 N0 (k a st') D := by
  cases x with
  | ok a st1 => exact fun w' H' g q => ⟨r.growE g q, h⟩
  | err c st1 => exact fun w' H' g q => h w' O σ H' (r.growE g q)
  | bad => exact h
end

/-! ### blocks -/
def skipS : SF := fun ρ st => .nx ρ st
def SO.thn (o : SO) (g : SF) : SO := match o with
  | .nx ρ st => g ρ st
  | o => o
def seqS (f g : SF) : SF := fun ρ st => (f ρ st).thn g
@[simp] theorem SO.thn_nx (ρ : Slots) (st : Sto) (g : SF) : (SO.nx ρ st).thn g = g ρ st := rfl
@[simp] theorem SO.thn_rt (d : D) (st : Sto) (g : SF) : (SO.rt d st).thn g = .rt d st := rfl
@[simp] theorem SO.thn_err (c : Nat) (ρ : Slots) (st : Sto) (g : SF) : (SO.err c ρ st).thn g = .err c ρ st := rfl
@[simp] theorem SO.thn_bad (g : SF) : SO.bad.thn g = .bad := rfl
@[simp] theorem SO.thn_bk (ρ : Slots) (st : Sto) (g : SF) : (SO.bk ρ st).thn g = .bk ρ st := rfl
@[simp] theorem SO.thn_ct (ρ : Slots) (st : Sto) (g : SF) : (SO.ct ρ st).thn g = .ct ρ st := rfl
section
variable {X : Cx} {C : Nat → Addr} {W : WX} {k : Nat} {s : Stmt} {rest : List Stmt} {f g : SF} {fa : EF} {la : AF} {e : Expr} {pos : Pos}
theorem seq_imp {K : PySem.W.Frag} {w0 : Wd} {H0 : Hp} {N0 : Nv} {D : Ends} {σ : St} {H : Hp} (h : tS K C W w0 H0 N0 (seqS f g) D σ H) : tSeq (tS K C W w0 H0 N0 f) (tS K C W w0 H0 N0 g) D σ H := by
  obtain ⟨w, st, O, ρ, rel, h⟩ := h
  refine ⟨w, st, O, ρ, rel, ?_⟩
  unfold seqS at h
  revert h
  cases f ρ st with
  | nx ρ' st' => exact fun h w' O' σ' H' r => ⟨w', st', O', ρ', r, h⟩
  | rt d st' => exact fun h => h
  | bk ρ' st' => exact fun h => h
  | ct ρ' st' => exact fun h => h
  | err c ρ' st' => exact fun h => h
  | bad => exact fun h => h
theorem dss_nil : DSs X C W skipS [] := fun w0 H0 N0 => PSs.imp pss_nil fun D σ H ⟨w, st, O, ρ, rel, h⟩ => h w O σ H rel
theorem dss_one (h : DS X C W f s) : DSs X C W f [s] := fun w0 H0 N0 => pss_one (h w0 H0 N0)
theorem dss_cons (h : DS X C W f s) (hr : DSs X C W g rest) : DSs X C W (seqS f g) (s :: rest) := fun w0 H0 N0 => PSs.imp (pss_cons (h w0 H0 N0) (hr w0 H0 N0)) fun _ _ _ h => seq_imp h
/-- what slot i alone knows may be known from here on -/
def Slot.ice : Slot → Option Slot
  | .own ds => some (.val (.list ds))
  | .dic false kvs => some (.val (.dict kvs))
  | .val d => some (.val d)
  | _ => none
def iceS (i : Nat) : SF := fun ρ st => match (ρ[i]?).bind Slot.ice with
  | some s => .nx (ρ.set i s) st
  | none => .bad
theorem RelS.ice {K : PySem.W.Frag} {w0 w : Wd} {H0 H : Hp} {N0 : Nv} {st : Sto} {O : Nat → List Addr} {ρ : Slots} {σ : St} (r : RelS K C w0 H0 N0 w st O ρ σ H) {i : Nat} {s s' : Slot} (e : ρ[i]? = some s) (h : s.ice = some s') :
    ∃ w' O', RelS K C w0 H0 N0 w' st O' (ρ.set i s') σ H := by
  obtain ⟨v, ev, hs⟩ := r.rel.slot i s e
  have same : ∀ {o : Option V}, σ[i]? = some o → σ.set i o = σ := fun {o} e => by
    apply List.ext_getElem?
    intro j
    by_cases hj : i = j
    · subst hj
      rw [List.getElem?_set_self (List.getElem?_eq_some_iff.mp e).1, e]
    · rw [List.getElem?_set_ne hj]
  have fin : ∀ {a : Addr} {o : HO} {d : D}, O i = [a] → v = some (.ref a) → H a = some o → (∀ N : Nv, (w.env K C).le N → N.F a = some o → Rep N (.ref a) d) → ∃ w' O', RelS K C w0 H0 N0 w' st O' (ρ.set i (.val d)) σ H := fun {a o d} h1 h2 h3 h4 => by
    have hm : a ∈ O i := by rw [h1]; simp
    obtain ⟨z1, z2⟩ := r.rel.ofz i a hm
    have kk := r.rel.ok.ice h3 z1 z2
    have gg : Grow w0 H0 (w.fz a o) H := r.grow.ice (r.new i a hm) z1
    have le' := le_fz (K := K) (C := C) (o := o) z1
    refine ⟨w.fz a o, clr O i, ⟨kk, by simpa using r.rel.len, fun j s' ej => ?_, fun j hj => ?_, fun j b hb => ?_, fun j l b h1 h2 => r.rel.dj j l b (clr_sub h1) (clr_sub h2)⟩, gg, fun j b hb => r.new j b (clr_sub hb), r.le.trans le'⟩
    · by_cases hj : j = i
      · subst hj
        rw [List.getElem?_set_self (List.getElem?_eq_some_iff.mp e).1] at ej
        cases ej
        refine ⟨v, ev, ?_⟩
        unfold clr
        rw [if_pos rfl]
        exact ⟨rfl, _, h2, h4 _ le' (show L2.upd w.F a o a = some o from upd_same)⟩
      · rw [List.getElem?_set_ne (Ne.symm hj)] at ej
        obtain ⟨v', e1, h1⟩ := r.rel.slot j s' ej
        refine ⟨v', e1, ?_⟩
        unfold clr
        rw [if_neg hj]
        exact h1.le le' fun _ _ _ h => h
    · unfold clr
      split
      · rfl
      · exact r.rel.out j (by simpa using hj)
    · have hb' : b ∈ O j ∧ j ≠ i := by
        unfold clr at hb
        split at hb
        · simp at hb
        · rename_i q; exact ⟨hb, q⟩
      refine ⟨?_, (r.rel.ofz j b hb'.1).2⟩
      show L2.upd w.F a o b = none
      rw [upd_ne (fun q => hb'.2 (r.rel.dj j i b hb'.1 (by rw [h1, q]; simp)))]
      exact (r.rel.ofz j b hb'.1).1
  cases s with
  | emp => cases h
  | own2 dss => cases h
  | val d =>
    cases h
    refine ⟨w, O, ?_⟩
    have e' : ρ.set i (.val d) = ρ := by
      apply List.ext_getElem?
      intro j
      by_cases hj : i = j
      · subst hj
        rw [List.getElem?_set_self (List.getElem?_eq_some_iff.mp e).1, e]
      · rw [List.getElem?_set_ne hj]
    rw [e']
    exact r
  | own ds =>
    cases h
    obtain ⟨a, h1, h2, vs, h3, z, h4⟩ := hs
    exact fin h1 h2 h3 fun N le hN => .lst hN z (h4.le le)
  | dic t kvs =>
    cases t
    · cases h
      obtain ⟨a, h1, h2, z, us, h3, h4⟩ := hs
      exact fin h1 h2 h3 fun N le hN => .dK hN z (h4.le le)
    · cases h
theorem dss_ice (i : Nat) (h : DSs X C W f rest) : DSs X C W (seqS (iceS i) f) rest := fun w0 H0 N0 => PSs.imp (h w0 H0 N0) fun D σ H ⟨w, st, O, ρ, rel, h⟩ => by
  unfold seqS iceS at h
  cases e : ρ[i]? with
  | none => rw [e] at h; exact h.elim
  | some s =>
    rw [e] at h
    cases e2 : s.ice with
    | none => simp only [Option.bind_some, e2] at h; exact h.elim
    | some s' =>
      simp only [Option.bind_some, e2] at h
      obtain ⟨w', O', r'⟩ := rel.ice e e2
      exact ⟨w', st, O', _, r', h⟩

/-! ### small statements -/
def asgS (t : Tgt) (f : EF) : SF := fun ρ st => SO.ofE (f ρ st) ρ fun d st => match t.set d ρ with
  | some ρ' => .nx ρ' st
  | none => .bad
def ownS (i : Nat) (f : AF) : SF := fun ρ st => SO.ofE (f ρ st) ρ fun ds st => if i < ρ.length then .nx (ρ.set i (.own ds)) st else .bad
def retS (f : EF) : SF := fun ρ st => SO.ofE (f ρ st) ρ fun d st => .rt d st
def dropS (f : EF) : SF := fun ρ st => SO.ofE (f ρ st) ρ fun _ st => .nx ρ st
def raiseS (c : Nat) : SF := fun ρ st => .err c ρ st
def ifS (t : TF) (a b : SF) : SF := fun ρ st => SO.ofE (t ρ st) ρ fun x st => if x = true then a ρ st else b ρ st
theorem RelS.setOwn {K : PySem.W.Frag} {w0 w w1 : Wd} {H0 H H1 : Hp} {N0 : Nv} {st st1 : Sto} {O : Nat → List Addr} {ρ : Slots} {σ : St} (r : RelS K C w0 H0 N0 w st O ρ σ H) {i : Nat} {p : Addr} (hi : i < ρ.length)
    (g : Grow w H w1 H1) (k : Ok K C w1 st1 H1) (h0 : H p = none) (hf : w1.F p = none) (hn : ¬ w1.In p) {s : Slot} (hs : SlotOk (w1.env K C) H1 [p] (some (.ref p)) s) :
    RelS K C w0 H0 N0 w1 st1 (fun j => if j = i then [p] else O j) (ρ.set i s) (σ.set i (some (.ref p))) H1 := by
  have r1 := r.rel.grow g k
  have np : ∀ j, p ∉ O j := fun j hj => by
    obtain ⟨u, hu⟩ := r.rel.there hj
    rw [h0] at hu; cases hu
  refine ⟨⟨k, by simpa using r.rel.len, fun j s' e => ?_, fun j hj => ?_, fun j a ha => ?_, fun j l a h1 h2 => ?_⟩, r.grow.trans g, fun j a ha => ?_, r.le.trans (g.le K C)⟩
  · by_cases hj : j = i
    · subst hj
      rw [List.getElem?_set_self hi] at e
      cases e
      exact ⟨_, by rw [List.getElem?_set_self (by rw [r.rel.len]; exact hi)], by rw [if_pos rfl]; exact hs⟩
    · rw [List.getElem?_set_ne (Ne.symm hj)] at e
      obtain ⟨v, e1, h1⟩ := r1.slot j s' e
      exact ⟨v, by rw [List.getElem?_set_ne (Ne.symm hj)]; exact e1, by rw [if_neg hj]; exact h1⟩
  · rw [List.length_set] at hj
    rw [if_neg (by omega)]
    exact r.rel.out j hj
  · by_cases hj : j = i
    · subst hj
      rw [if_pos rfl] at ha
      have : a = p := by simpa using ha
      subst this
      exact ⟨hf, hn⟩
    · rw [if_neg hj] at ha; exact r1.ofz j a ha
  · by_cases hj : j = i
    · by_cases hl : l = i
      · rw [hj, hl]
      · rw [if_pos hj] at h1
        rw [if_neg hl] at h2
        have : a = p := by simpa using h1
        subst this
        exact (np l h2).elim
    · rw [if_neg hj] at h1
      by_cases hl : l = i
      · rw [if_pos hl] at h2
        have : a = p := by simpa using h2
        subst this
        exact (np j h1).elim
      · rw [if_neg hl] at h2
        exact r.rel.dj j l a h1 h2
  · by_cases hj : j = i
    · rw [if_pos hj] at ha
      have : a = p := by simpa using ha
      subst this
      exact r.grow.mono a h0
    · rw [if_neg hj] at ha; exact r.new j a ha
theorem asg_imp {K : PySem.W.Frag} {w0 : Wd} {H0 : Hp} {N0 : Nv} {t : Tgt} {D : Ends} {σ : St} {H : Hp} (h : tS K C W w0 H0 N0 (asgS t fa) D σ H) : tAsg (tE K C W fa) (tG K C t) D σ H := by
  obtain ⟨w, st, O, ρ, rel, h⟩ := h
  refine ⟨w, st, O, ρ, rel.rel, (ofE_imp h rel).mono fun w1 H1 d st1 g1 k1 ⟨r1, h1⟩ v rv => ?_⟩
  refine ⟨w1, st1, O, ρ, d, r1.rel, rv, ?_⟩
  revert h1
  cases t.set d ρ with
  | none => exact fun h => h
  | some ρ' => exact fun h O' σ' _ hO r' => h w1 O' σ' H1 (r1.to r' hO)
theorem asgL_imp {K : PySem.W.Frag} {w0 : Wd} {H0 : Hp} {N0 : Nv} {i : Nat} {D : Ends} {σ : St} {H : Hp} (h : tS K C W w0 H0 N0 (asgS (.nm i) (lstV la)) D σ H) : tAsg (tL K C W la) (gName i) D σ H := by
  have h' : tE K C W (lstV la) σ H fun v H1 => D.nx (σ.set i (some v)) H1 := by
    obtain ⟨w, st, O, ρ, rel, h⟩ := h
    refine ⟨w, st, O, ρ, rel.rel, (ofE_imp h rel).mono fun w1 H1 d st1 g1 k1 ⟨r1, h1⟩ v rv => ?_⟩
    exact h1 w1 _ _ H1 (r1.to (r1.rel.setVal i rv) fun j a => clr_sub)
  exact lst_imp h'
theorem own_imp {K : PySem.W.Frag} {w0 : Wd} {H0 : Hp} {N0 : Nv} {i : Nat} {D : Ends} {σ : St} {H : Hp} (h : tS K C W w0 H0 N0 (ownS i la) D σ H) : tAsg (tL K C W la) (gName i) D σ H := by
  obtain ⟨w, st, O, ρ, rel, h⟩ := h
  refine ⟨w, st, O, ρ, rel.rel, (ofE_imp h rel).mono fun w1 H1 ds st1 g1 k1 ⟨r1, h1⟩ p vs h0 hf hn hp z rv => ?_⟩
  by_cases hi : i < ρ.length
  · rw [if_pos hi] at h1
    exact h1 w1 _ _ H1 (rel.setOwn hi g1 k1 h0 hf hn ⟨p, rfl, rfl, vs, hp, z, rv⟩)
  · rw [if_neg hi] at h1; exact h1.elim
theorem ds_asg {tg : Expr} {t : Tgt} (he : DE X C W fa e) (hg : DG X C t tg) (hs : swapsWithSole [tg] e pos.line X.env = pure false := by rfl) (hw : swappedStores [tg] e X.env = pure none := by rfl)
    (h1 : (assignEach [tg] X.env).map (·.2) = [assign tg X.env] := by rfl) : DS X C W (asgS t fa) (.Assign [tg] e pos) := fun w0 H0 N0 => PS.imp (ps_asg he hg hs hw h1) fun _ _ _ h => asg_imp h
theorem set_imp {K : PySem.W.Frag} {w0 : Wd} {H0 : Hp} {N0 : Nv} {i : Nat} {D : Ends} {σ : St} {H : Hp} (h : tS K C W w0 H0 N0 (asgS (.nm i) fa) D σ H) : tAsg (tE K C W fa) (gName i) D σ H := by
  obtain ⟨w, st, O, ρ, rel, h⟩ := h
  refine ⟨w, st, O, ρ, rel.rel, (ofE_imp h rel).mono fun w1 H1 d st1 g1 k1 ⟨r1, h1⟩ v rv => ?_⟩
  exact h1 w1 _ _ H1 (r1.to (r1.rel.setVal i rv) fun j a => clr_sub)
theorem ds_set (i : Nat) {x : Str} {pos' : Pos} (g : G X C W k) (he : DE X C W fa e) (hi : X.N[i]? = some x := by rfl) (hx : Loc X.env.scope x := by first | exact .inl rfl | exact .inr rfl) (hs : swapsWith e (some (.Name x pos')) pos.line X.env = pure false := by rfl)
    (hf : X.fn x = true ∨ X.env.scope.names.lookup x = some .local := by first | exact .inl rfl | exact .inr rfl) : DS X C W (asgS (.nm i) fa) (.Assign [.Name x pos'] e pos) :=
  fun w0 H0 N0 => PS.imp (ps_set g.nd hi hx he hs hf) fun _ _ _ h => set_imp h
theorem ds_own (i : Nat) {x : Str} {pos' : Pos} (g : G X C W k) (he : DL X C W la e) (hi : X.N[i]? = some x := by rfl) (hx : Loc X.env.scope x := by first | exact .inl rfl | exact .inr rfl) (hs : swapsWith e (some (.Name x pos')) pos.line X.env = pure false := by rfl)
    (hf : X.fn x = true ∨ X.env.scope.names.lookup x = some .local := by first | exact .inl rfl | exact .inr rfl) : DS X C W (ownS i la) (.Assign [.Name x pos'] e pos) :=
  fun w0 H0 N0 => PS.imp (ps_set g.nd hi hx he hs hf) fun _ _ _ h => own_imp h
theorem ds_ret (he : DE X C W fa e) : DS X C W (retS fa) (.Return (some e) pos) := fun w0 H0 N0 => PS.imp (ps_ret he) fun D σ H ⟨w, st, O, ρ, rel, h⟩ =>
  ⟨w, st, O, ρ, rel.rel, (ofE_imp h rel).mono fun w1 H1 d st1 g1 k1 ⟨r1, h1⟩ v rv => h1 v w1 H1 r1.grow k1 rv⟩
theorem ds_drop (he : DE X C W fa e) (hs : swapsWith e none pos.line X.env = pure false := by rfl) : DS X C W (dropS fa) (.Expr e pos) := fun w0 H0 N0 => PS.imp (ps_expr he hs) fun D σ H ⟨w, st, O, ρ, rel, h⟩ =>
  ⟨w, st, O, ρ, rel.rel, (ofE_imp h rel).mono fun w1 H1 d st1 g1 k1 ⟨r1, h1⟩ v rv => h1 w1 O σ H1 r1⟩
theorem ds_pass : DS X C W skipS (.Pass pos) := fun w0 H0 N0 => PS.imp ps_pass fun D σ H ⟨w, st, O, ρ, rel, h⟩ => h w O σ H rel
theorem ds_if {c : Expr} {a b : List Stmt} {t : TF} {f g : SF} (hc : DT X C W t c) (ha : DSs X C W f a) (hb : DSs X C W g b) : DS X C W (ifS t f g) (.If c a b pos) := fun w0 H0 N0 => PS.imp (ps_if hc (ha w0 H0 N0) (hb w0 H0 N0)) fun D σ H ⟨w, st, O, ρ, rel, h⟩ => by
  refine ⟨w, st, O, ρ, rel.rel, (ofE_imp h rel).mono fun w1 H1 b st1 g1 k1 ⟨r1, h1⟩ => ?_⟩
  cases b with
  | true => exact ⟨w1, st1, O, ρ, r1, h1⟩
  | false => exact ⟨w1, st1, O, ρ, r1, h1⟩
end
end BF

/-! BF8: loops, raise, own lists changed, a def made. -/
namespace BF
open PySem L2

section
variable {X : Cx} {C : Nat → Addr} {W : WX} {k : Nat} {e tg iter : Expr} {pos : Pos} {fa : EF} {fi : AF} {body : List Stmt} {fb : SF} {t : Tgt}
/-- name = [..] -/
theorem ds_setLc (i : Nat) {y : Str} {py spos : Pos} {elt : Expr} {ifs : List Expr} {scope : Scope} {tt : TF} {te : EF} (own : List (Str × Nat)) (g : G X C W k) (hy : X.N[i]? = some y) (hyl : X.env.scope.names.lookup y = some .local)
    (hsw : swapsWith (.ListComp elt [⟨tg, iter, ifs, 0⟩] scope pos) (some (.Name y py)) spos.line X.env = pure true) (hj : ∀ j ∈ t.js, j ∈ own.map (·.2)) (hi : DI X C W fi tg iter) (ok : blkC X.N X.env.scope scope own = true)
    (hg : ∀ (s : Shared) (H : Hp) (D : Addr) (cl : List (Str × Addr)) (fp : List Addr), DG (X.blk s H scope (compEnvC scope cl D X.env) fp) C t tg)
    (ht : ∀ (s : Shared) (H : Hp) (D : Addr) (cl : List (Str × Addr)) (fp : List Addr), G (X.blk s H scope (compEnvC scope cl D X.env) fp) C WF k → DTs (X.blk s H scope (compEnvC scope cl D X.env) fp) C WF tt ifs)
    (he : ∀ (s : Shared) (H : Hp) (D : Addr) (cl : List (Str × Addr)) (fp : List Addr), G (X.blk s H scope (compEnvC scope cl D X.env) fp) C WF k → DE (X.blk s H scope (compEnvC scope cl D X.env) fp) C WF te elt)
    (hs : ∀ x, foldedSetIterable iter X.env x = pure x := by intro _; rfl) : DS X C W (asgS (.nm i) (lstV (lcF fi t (own.map (·.2)) tt te))) (.Assign [.Name y py] (.ListComp elt [⟨tg, iter, ifs, 0⟩] scope pos) spos) :=
  fun w0 H0 N0 => PS.imp (ps_setLc (g := tG X.K C t) (tt := tT X.K C WF tt) (te := tE X.K C WF te) g.calm g.nd hy hyl hsw hi (blkOk_by ok) hg (fun s H D cl fp => ht s H D cl fp (g.blk ..)) (fun s H D cl fp => he s H D cl fp (g.blk ..)) hs) fun D σ H h => lc_imp hj (asgL_imp h)
theorem ds_ownLc (i : Nat) {y : Str} {py spos : Pos} {elt : Expr} {ifs : List Expr} {scope : Scope} {tt : TF} {te : EF} (own : List (Str × Nat)) (g : G X C W k) (hy : X.N[i]? = some y) (hyl : X.env.scope.names.lookup y = some .local)
    (hsw : swapsWith (.ListComp elt [⟨tg, iter, ifs, 0⟩] scope pos) (some (.Name y py)) spos.line X.env = pure true) (hj : ∀ j ∈ t.js, j ∈ own.map (·.2)) (hi : DI X C W fi tg iter) (ok : blkC X.N X.env.scope scope own = true)
    (hg : ∀ (s : Shared) (H : Hp) (D : Addr) (cl : List (Str × Addr)) (fp : List Addr), DG (X.blk s H scope (compEnvC scope cl D X.env) fp) C t tg)
    (ht : ∀ (s : Shared) (H : Hp) (D : Addr) (cl : List (Str × Addr)) (fp : List Addr), G (X.blk s H scope (compEnvC scope cl D X.env) fp) C WF k → DTs (X.blk s H scope (compEnvC scope cl D X.env) fp) C WF tt ifs)
    (he : ∀ (s : Shared) (H : Hp) (D : Addr) (cl : List (Str × Addr)) (fp : List Addr), G (X.blk s H scope (compEnvC scope cl D X.env) fp) C WF k → DE (X.blk s H scope (compEnvC scope cl D X.env) fp) C WF te elt)
    (hs : ∀ x, foldedSetIterable iter X.env x = pure x := by intro _; rfl) : DS X C W (ownS i (lcF fi t (own.map (·.2)) tt te)) (.Assign [.Name y py] (.ListComp elt [⟨tg, iter, ifs, 0⟩] scope pos) spos) :=
  fun w0 H0 N0 => PS.imp (ps_setLc (g := tG X.K C t) (tt := tT X.K C WF tt) (te := tE X.K C WF te) g.calm g.nd hy hyl hsw hi (blkOk_by ok) hg (fun s H D cl fp => ht s H D cl fp (g.blk ..)) (fun s H D cl fp => he s H D cl fp (g.blk ..)) hs) fun D σ H h => lc_imp hj (own_imp h)

/-! ### for -/
def forLoop (t : Tgt) (body : SF) : List D → SF
  | [], ρ, st => .nx ρ st
  | d :: ds, ρ, st => match t.set d ρ with
    | none => .bad
    | some ρ' => match body ρ' st with
      | .nx ρ st => forLoop t body ds ρ st
      | .ct ρ st => forLoop t body ds ρ st
      | .bk ρ st => .nx ρ st
      | o => o
def forS (fi : AF) (t : Tgt) (body : SF) : SF := fun ρ st => SO.ofE (fi ρ st) ρ fun ds st => forLoop t body ds ρ st
theorem for_imp {K : PySem.W.Frag} {w0 : Wd} {H0 : Hp} {N0 : Nv} {D : Ends} {σ : St} {H : Hp} {tb : TS} (hb : ∀ N1 D σ H, tS K C W w0 H0 N1 fb D σ H → tb D σ H) (hz : True) (h : tS K C W w0 H0 N0 (forS fi t fb) D σ H) : tFor (tI K C W fi) (tG K C t) tb D σ H := by
  obtain ⟨w, st, O, ρ, rel, h⟩ := h
  refine ⟨w, st, O, ρ, rel.rel, (ofE_imp h rel).mono fun w1 H1 ds st1 g1 k1 ⟨r1, h1⟩ hz J hJ => ?_⟩
  refine ⟨fun i m σ H => m = ds.length - i ∧ i ≤ ds.length ∧ ∃ w st O ρ, RelS K C w0 H0 (w1.env K C) w st O ρ σ H ∧ OutS K C W w0 H0 N0 (forLoop t fb (ds.drop i) ρ st) D, ⟨_, rfl, Nat.zero_le _, w1, st1, O, ρ, ⟨r1.rel, r1.grow, r1.new, .refl _⟩, h1⟩, ?_⟩
  rintro i m σ H ⟨rfl, hi, w, st, O, ρ, r, h⟩
  have J1 := hJ w st H r.le r.rel.ok
  by_cases hlt : i < ds.length
  · refine .inr ?_
    have hd : ds[i]? = some ds[i] := by simp [hlt]
    refine ⟨(J1.1 i _ hd).1, fun σ H => ∃ w st O ρ, RelS K C w0 H0 (w1.env K C) w st O ρ σ H ∧ OutS K C W w0 H0 N0 (forLoop t fb (ds.drop (i + 1)) ρ st) D, fun σ' H' n => ⟨ds.length - (i + 1), by omega, rfl, by omega, n⟩, fun x H3 y => ?_⟩
    obtain ⟨rfl, wk, gk, ok', rx⟩ := (J1.1 i _ hd).2 x H3 y
    have r := r.growE gk ok'
    rw [List.drop_eq_getElem_cons hlt] at h
    refine ⟨wk, st, O, ρ, ds[i], r.rel, rx, ?_⟩
    unfold forLoop at h
    revert h
    cases t.set ds[i] ρ with
    | none => exact fun h => h
    | some ρ' =>
      intro h O' σ' _ hO r'
      refine hb (w1.env K C) _ _ _ ⟨wk, st, O', ρ', r.to r' hO, ?_⟩
      revert h
      simp only
      have wk : ∀ {w st O ρ σ H}, RelS K C w0 H0 (w1.env K C) w st O ρ σ H → RelS K C w0 H0 N0 w st O ρ σ H := fun q => q.weak r1.le
      cases fb ρ' st with
      | nx ρ2 st2 => exact fun h w O σ H q => ⟨w, st2, O, ρ2, q, h⟩
      | ct ρ2 st2 => exact fun h w O σ H q => ⟨w, st2, O, ρ2, q, h⟩
      | bk ρ2 st2 => exact fun h w O σ H q => h w O σ H (wk q)
      | rt d st2 => exact fun h => h
      | err c ρ2 st2 => exact fun h w O σ H q => h w O σ H (wk q)
      | bad => exact fun h => h
  · have e : i = ds.length := by omega
    subst e
    rw [List.drop_length] at h
    exact .inl ⟨J1.2 _ (Nat.le_refl _), h w O σ H (r.weak r1.le)⟩
/-- a block whatever is known -/
theorem dss_all {K : PySem.W.Frag} (w0 : Wd) (H0 : Hp) (h : DSs X C W fb body) : PSs X body (fun D σ H => ∃ N1, tS X.K C W w0 H0 N1 fb D σ H) := ⟨fun pins s σ H D I ⟨N1, q⟩ => (h w0 H0 N1).run pins s σ H D I q⟩
theorem ds_for (g : G X C W k) (hi : DI X C W fi tg iter) (hg : DG X C t tg) (hb : DSs X C W fb body) (hs : ∀ x, foldedSetIterable iter X.env x = pure x := by intro _; rfl) : DS X C W (forS fi t fb) (.For tg iter body [] pos) := fun w0 H0 N0 =>
  PS.imp (ps_for g.own g.calm hi hg (dss_all (K := X.K) w0 H0 hb) hs) fun D σ H h => for_imp (fun N1 D σ H q => ⟨N1, q⟩) trivial h

/-! ### while -/
def whileLoop (t : TF) (body : SF) : Nat → SF
  | 0, _, _ => .bad
  | n + 1, ρ, st => SO.ofE (t ρ st) ρ fun b st => if b = true then (match body ρ st with
      | .nx ρ st => whileLoop t body n ρ st
      | .ct ρ st => whileLoop t body n ρ st
      | .bk ρ st => .nx ρ st
      | o => o) else .nx ρ st
theorem ds_while {c : Expr} {tc : TF} (n : Nat) (g : G X C W k) (hc : DT X C W tc c) (hb : DSs X C W fb body) : DS X C W (whileLoop tc fb n) (.While c body [] pos) := fun w0 H0 N0 =>
  PS.imp (ps_while g.own hc (hb w0 H0 N0)) fun D σ H h => by
    obtain ⟨w, st, O, ρ, rel, h⟩ := h
    refine ⟨fun m σ H => ∃ w st O ρ, RelS X.K C w0 H0 N0 w st O ρ σ H ∧ OutS X.K C W w0 H0 N0 (whileLoop tc fb m ρ st) D, ⟨n, w, st, O, ρ, rel, h⟩, ?_⟩
    rintro m σ H ⟨w, st, O, ρ, r, h⟩
    cases m with
    | zero => exact h.elim
    | succ m =>
      refine ⟨w, st, O, ρ, r.rel, (ofE_imp h r).mono fun w1 H1 b st1 g1 k1 ⟨r1, h1⟩ => ?_⟩
      cases b with
      | false =>
        rw [if_neg Bool.false_ne_true] at h1 ⊢
        exact h1 w1 O σ H1 r1
      | true =>
        rw [if_pos rfl] at h1 ⊢
        refine ⟨fun σ H => ∃ w st O ρ, RelS X.K C w0 H0 N0 w st O ρ σ H ∧ OutS X.K C W w0 H0 N0 (whileLoop tc fb m ρ st) D, fun σ' H' q => ⟨m, Nat.lt_succ_self m, q⟩, w1, st1, O, ρ, r1, ?_⟩
        revert h1
        cases fb ρ st1 with
        | nx ρ2 st2 => exact fun h w O σ H q => ⟨w, st2, O, ρ2, q, h⟩
        | ct ρ2 st2 => exact fun h w O σ H q => ⟨w, st2, O, ρ2, q, h⟩
        | bk ρ2 st2 => exact fun h => h
        | rt d st2 => exact fun h => h
        | err c ρ2 st2 => exact fun h => h
        | bad => exact fun h => h

/-! ### raise -/
/-- the class x of the text, the c-th -/
structure ExF (K : PySem.W.Frag) (mg : Str → Option Value) (C : Nat → Addr) (x : Str) (c : Nat) : Prop where
  exc : PySem.W.excIn K (C c) He.veBase "ValueError.__new__" = true
  mg : mg x = some (.ref (C c))
  keep : PySem.W.keepIn K (.ref (C c)) = true
  sub : PySem.W.subIn K (.ref (C c)) (.type "BaseException") = some true
  ty : PySem.W.typeIn K (.ref (C c)) = some (.type "type")
theorem ds_raise {x m : Str} {c j : Nat} {p p2 pos' : Pos} (g : G X C W k) (F : ExF X.K X.mg C x c) (hg : Gl X x := by rfl) (hdb : (x == ("__debug__" : Str)) = false := by rfl) :
    DS X C W (raiseS c) (.Raise (some (.Call (.Name x p) [.Constant (.str m) j p2] [] pos')) none pos) := fun w0 H0 N0 =>
  PS.imp (ps_raise g.calm g.tk (pmk_own PySem.F.excBase_ValueError F.exc F.mg F.keep (raises_own F.sub F.ty) hg hdb)) fun D σ H ⟨w, st, O, ρ, rel, h⟩ => h w O σ H rel

/-! ### own lists changed -/
def upS (i : Nat) (f : EF) (u : List D → D → Option (List D)) : SF := fun ρ st => match ρ[i]? with
  | some (.own ds) => SO.ofE (f ρ st) ρ fun d st => match u ds d with
    | some ds' => .nx (ρ.set i (.own ds')) st
    | none => .bad
  | _ => .bad
theorem set_same {σ : St} {i : Nat} {o : Option V} (e : σ[i]? = some o) : σ.set i o = σ := by
  apply List.ext_getElem?
  intro j
  by_cases hj : i = j
  · subst hj
    rw [List.getElem?_set_self (List.getElem?_eq_some_iff.mp e).1, e]
  · rw [List.getElem?_set_ne hj]
/-- what slot i alone knows is changed where it stands -/
theorem RelS.upOwn {K : PySem.W.Frag} {w0 w : Wd} {H0 H : Hp} {N0 : Nv} {st : Sto} {O : Nat → List Addr} {ρ : Slots} {σ : St} (r : RelS K C w0 H0 N0 w st O ρ σ H) {i : Nat} {p : Addr} {o : HO} {s s' : Slot} (e : ρ[i]? = some s) (hO : O i = [p]) (hσ : σ[i]? = some (some (.ref p)))
    (hs : SlotOk (w.env K C) (L2.upd H p o) [p] (some (.ref p)) s') : RelS K C w0 H0 N0 w st O (ρ.set i s') σ (L2.upd H p o) := by
  have hp : p ∈ O i := by rw [hO]; simp
  obtain ⟨z1, z2⟩ := r.rel.ofz i p hp
  have hi := (List.getElem?_eq_some_iff.mp e).1
  refine ⟨⟨r.rel.ok.upd z1 z2, by simpa using r.rel.len, fun j s2 ej => ?_, fun j hj => r.rel.out j (by simpa using hj), r.rel.ofz, r.rel.dj⟩, r.grow.upd (r.new i p hp), r.new, r.le⟩
  by_cases hj : j = i
  · subst hj
    rw [List.getElem?_set_self hi] at ej
    cases ej
    exact ⟨_, hσ, by rw [hO]; exact hs⟩
  · rw [List.getElem?_set_ne (Ne.symm hj)] at ej
    obtain ⟨v, e1, h1⟩ := r.rel.slot j s2 ej
    exact ⟨v, e1, h1.le (.refl _) fun a ha u hu => by rw [upd_ne (fun q => hj (r.rel.dj j i a ha (by rw [hO, q]; simp)))]; exact hu⟩
def appU : List D → D → Option (List D) := fun ds d => if ds.length < 16777216 then some (ds ++ [d]) else none
def extU : List D → D → Option (List D)
  | ds, .list es => if ds.length + es.length ≤ 16777216 then some (ds ++ es) else none
  | _, _ => none
variable {x : Str} {p apos cpos p' : Pos}
theorem up_imp {K : PySem.W.Frag} {i : Nat} {u : List D → D → Option (List D)} {r : V → List V → Hp → VK → Prop}
    (hr : ∀ (w : Wd) (st : Sto) (H : Hp) (a : Addr) (vs : List V) (ds ds' : List D) (v : V) (d : D) (Q : VK), Ok K C w st H → H a = some (.lst vs) → RepA (w.env K C) vs ds → ds.length ≤ sizeLine → w.F a = none → Rep (w.env K C) v d → u ds d = some ds' →
      (∀ vs', RepA (w.env K C) vs' ds' → ds'.length ≤ sizeLine → Q .non (L2.upd H a (.lst vs'))) → r (.ref a) [v] H Q)
    {w0 : Wd} {H0 : Hp} {N0 : Nv} {Dn : Ends} {σ : St} {H : Hp} (h : tS K C W w0 H0 N0 (upS i fa u) Dn σ H) : tDrop (tBM K "list" r (tVar i) (tCons (tE K C W fa) tNil)) Dn σ H := by
  obtain ⟨w, st, O, ρ, rel, h⟩ := h
  unfold upS at h
  cases e : ρ[i]? with
  | none => rw [e] at h; exact h.elim
  | some s =>
    rw [e] at h
    cases s with
    | own ds =>
      obtain ⟨v, ev, a, h1, h2, vs, h3, z, h4⟩ := rel.rel.slot i _ e
      cases h2
      refine ⟨.ref a, ev, .inl ⟨rfl, vs, SqL.of h3⟩, w, st, O, ρ, rel.rel, (ofE_imp h rel).mono fun w1 H1 d st1 g1 k1 ⟨r1, h1'⟩ v rv => ?_⟩
      have hp : a ∈ O i := by rw [h1]; simp
      obtain ⟨d3, d1, d2⟩ := g1.apart k1 h3 (rel.rel.ofz i a hp).1 (rel.rel.ofz i a hp).2
      revert h1'
      cases e2 : u ds d with
      | none => exact fun h => h.elim
      | some ds' =>
        intro h1'
        refine hr w1 st1 H1 a vs ds ds' v d _ k1 d3 (h4.le (g1.le K C)) z d1 rv e2 fun vs' r' z' => ?_
        exact h1' w1 O σ _ (r1.upOwn e h1 ev ⟨a, rfl, rfl, vs', upd_same, z', r'⟩)
    | _ => exact h.elim
theorem ds_app (i : Nat) {a : Expr} (ha : DE X C W fa a) (hN : X.N[i]? = some x := by rfl) (hv : Vis X.env.scope x := by first | exact Or.inl rfl | exact Or.inr (Or.inl rfl) | exact Or.inr (Or.inr rfl))
    (hd : (x == ("__debug__" : Str)) = false := by decide) (hcd : (x == ("__classdict__" : Str)) = false := by decide)
    (hbase : attributeBase (.Name x p) "append" X.env (eval (.Name x p) X.env) = eval (.Name x p) X.env := by rfl)
    (hfew : ((backTo cpos (starEach [a] X.env)).all (fun x => !x.1) && (backToKw cpos (keywordEach [] X.env)).all (fun x => x.1.isSome)
      && decide (([a] : List Expr).length + ([] : List Keyword).length + (if ([] : List Keyword).isEmpty then 0 else 1) < 30)) = true := by rfl)
    (hline : (apos.endLine == cpos.line) = true := by rfl) (hs : starEach [a] X.env = (false, eval a X.env) :: starEach [] X.env := by rfl) (hplain : (backTo cpos (starEach [] X.env)).any (·.1) = false := by rfl)
    (hsw : swapsWith (.Call (.Attribute (.Name x p) "append" apos) [a] [] cpos) none pos.line X.env = pure false := by rfl) :
    DS X C W (upS i fa appU) (.Expr (.Call (.Attribute (.Name x p) "append" apos) [a] [] cpos) pos) := fun w0 H0 N0 =>
  PS.imp (ps_expr (pe_bm PySem.F.plainAttrs_list PySem.F.slot_list_append PySem.F.type_list_append mt_append (pv i hN hv hd hcd) (pa_cons ha pa_nil hs) hbase hfew hline hs hplain) hsw) fun _ _ _ h =>
    up_imp (fun w st H a vs ds ds' v d Q k h1 h2 h3 h4 h5 h6 h7 => by
      unfold appU at h6
      split at h6
      · rename_i hz
        cases h6
        have z0 := size_line
        exact ⟨a, vs, v, rfl, rfl, h1, by rw [h2.length]; omega, h7 _ (h2.append (.cons h5 .nil)) (by simp; omega)⟩
      · cases h6) h
theorem ds_ext (i : Nat) {a : Expr} (ha : DE X C W fa a) (hN : X.N[i]? = some x := by rfl) (hv : Vis X.env.scope x := by first | exact Or.inl rfl | exact Or.inr (Or.inl rfl) | exact Or.inr (Or.inr rfl))
    (hd : (x == ("__debug__" : Str)) = false := by decide) (hcd : (x == ("__classdict__" : Str)) = false := by decide)
    (hbase : attributeBase (.Name x p) "extend" X.env (eval (.Name x p) X.env) = eval (.Name x p) X.env := by rfl)
    (hfew : ((backTo cpos (starEach [a] X.env)).all (fun x => !x.1) && (backToKw cpos (keywordEach [] X.env)).all (fun x => x.1.isSome)
      && decide (([a] : List Expr).length + ([] : List Keyword).length + (if ([] : List Keyword).isEmpty then 0 else 1) < 30)) = true := by rfl)
    (hline : (apos.endLine == cpos.line) = true := by rfl) (hs : starEach [a] X.env = (false, eval a X.env) :: starEach [] X.env := by rfl) (hplain : (backTo cpos (starEach [] X.env)).any (·.1) = false := by rfl)
    (hsw : swapsWith (.Call (.Attribute (.Name x p) "extend" apos) [a] [] cpos) none pos.line X.env = pure false := by rfl) :
    DS X C W (upS i fa extU) (.Expr (.Call (.Attribute (.Name x p) "extend" apos) [a] [] cpos) pos) := fun w0 H0 N0 =>
  PS.imp (ps_expr (pe_bm PySem.F.plainAttrs_list PySem.F.slot_list_extend PySem.F.type_list_extend mt_extend (pv i hN hv hd hcd) (pa_cons ha pa_nil hs) hbase hfew hline hs hplain) hsw) fun _ _ _ h =>
    up_imp (fun w st H a vs ds ds' v d Q k h1 h2 h3 h4 h5 h6 h7 => by
      cases d <;> simp only [extU, reduceCtorEq] at h6
      split at h6
      · rename_i hz
        cases h6
        have z0 := size_line
        obtain ⟨b, us, rfl, hb, zb, rb⟩ := h5.inL
        exact ⟨a, b, vs, us, rfl, rfl, h1, k.sub _ _ hb, by rw [h2.length, rb.length]; omega, h7 _ (h2.append rb) (by simp; omega)⟩
      · cases h6) h

/-! ### a shared list: town.append(d), len(town) -/
def obIx : D → Option Nat
  | .dict [(.none, .int i)] => if 0 ≤ i then some i.toNat else none
  | _ => none
def slotOb (ρ : Slots) (i : Nat) : Option Nat := match ρ[i]? with
  | some (.val d) => obIx d
  | _ => none
def appOb (i : Nat) (f : EF) : SF := fun ρ st => match slotOb ρ i with
  | none => .bad
  | some n => match st[n]? with
    | some (.lst _) => SO.ofE (f ρ st) ρ fun d st => match st[n]? with
      | some (.lst ds) => if ds.length < 16777216 then .nx ρ (st.set n (.lst (ds ++ [d]))) else .bad
      | _ => .bad
    | _ => .bad
def lenOb (i : Nat) : EF := fun ρ st => match slotOb ρ i with
  | none => .bad
  | some n => match st[n]? with
    | some (.lst ds) => .ok (.int ds.length) st
    | _ => .bad
theorem obIx_of {d : D} {n : Nat} (h : obIx d = some n) : d = D.ob n := by
  unfold obIx at h
  split at h
  · rename_i i
    split at h
    · rename_i h0
      cases h
      rw [D.ob, Int.toNat_of_nonneg h0]
    · cases h
  · cases h
theorem Rep.inO {N : Nv} {v : V} {n : Nat} (r : Rep N v (D.ob n)) : ∃ a, v = .ref a ∧ N.R[n]? = some a := by
  generalize hd : D.ob n = d at r
  cases r with
  | ob h => rename_i a i; injection hd with hd; injection hd with hd; injection hd with _ hd; injection hd with hd; rw [show n = i by omega]; exact ⟨a, rfl, h⟩
  | ex h => injection hd with hd; injection hd with hd; injection hd with hd; cases hd
  | scr h => injection hd with hd; injection hd with hd; injection hd with hd; cases hd
  | dK h z r =>
    cases hd
    cases r with
    | @cons ky => rename_i r1 r2 r3; cases ky <;> cases r1
  | dT h z r => cases hd
  | _ => cases hd
theorem Wd.R_get {w : Wd} {n : Nat} {a : Addr} (h : w.R[n]? = some a) : ∃ fp, w.P[n]? = some fp ∧ fp.headD 0 = a := by
  unfold Wd.R at h
  rw [List.getElem?_map, Option.map_eq_some_iff] at h
  exact h
/-- a shared list is changed -/
theorem Ok.setLst {K : PySem.W.Frag} {w : Wd} {st : Sto} {H : Hp} {n : Nat} {a : Addr} {vs : List V} {ds : List D} (k : Ok K C w st H) (hp : w.P[n]? = some [a]) (r : RepA (w.env K C) vs ds) (z : ds.length ≤ sizeLine) :
    Ok K C w (st.set n (.lst ds)) (L2.upd H a (.lst vs)) where
  sub := fun b u h => by
    rw [upd_ne (fun e => by
      have := k.dj a ⟨[a], List.mem_of_getElem? hp, by simp⟩
      rw [e, this] at h; cases h)]
    exact k.sub b u h
  dj := k.dj
  nd := k.nd
  ndd := k.ndd
  len := by simpa using k.len
  obs := fun i fp o h1 h2 => by
    by_cases e : i = n
    · subst e
      rw [List.getElem?_set_self (by rw [← k.len]; exact (List.getElem?_eq_some_iff.mp hp).1)] at h2
      cases h2
      rw [hp] at h1
      cases h1
      exact ⟨a, rfl, vs, upd_same, z, r⟩
    · rw [List.getElem?_set_ne (Ne.symm e)] at h2
      refine (k.obs i fp o h1 h2).le (.refl _) fun b hb u hu => ?_
      rw [upd_ne (fun q => e (k.ndd i n fp [a] a h1 hp (by rw [← q]; exact hb) (by simp)))]
      exact hu
theorem Grow.setIn {w : Wd} {H : Hp} {a : Addr} {o : HO} (hi : w.In a) (ht : ∃ u, H a = some u) : Grow w H w (L2.upd H a o) where
  ext := fun _ _ h => h
  newF := fun _ _ h => .inl h
  newP := fun _ h => .inl h
  keep := fun b u h n => by rw [upd_ne (fun e => n (by rw [e]; exact hi))]; exact h
  mono := fun b h => by
    by_cases e : b = a
    · rw [e, upd_same] at h; cases h
    · rw [upd_ne e] at h; exact h
  pre := fun _ _ h => h
theorem ob_lst {K : PySem.W.Frag} {w : Wd} {st : Sto} {H : Hp} {n : Nat} {a : Addr} {ds : List D} (k : Ok K C w st H) (hr : w.R[n]? = some a) (hs : st[n]? = some (.lst ds)) : w.P[n]? = some [a] ∧ ∃ vs, H a = some (.lst vs) ∧ ds.length ≤ sizeLine ∧ RepA (w.env K C) vs ds := by
  obtain ⟨fp, h1, h2⟩ := Wd.R_get hr
  obtain ⟨b, rfl, vs, h3⟩ := k.obs n fp _ h1 hs
  have : b = a := h2
  subst this
  exact ⟨h1, vs, h3⟩
theorem ds_appOb (i : Nat) {a : Expr} (ha : DE X C W fa a) (hN : X.N[i]? = some x := by rfl) (hv : Vis X.env.scope x := by first | exact Or.inl rfl | exact Or.inr (Or.inl rfl) | exact Or.inr (Or.inr rfl))
    (hd : (x == ("__debug__" : Str)) = false := by decide) (hcd : (x == ("__classdict__" : Str)) = false := by decide)
    (hbase : attributeBase (.Name x p) "append" X.env (eval (.Name x p) X.env) = eval (.Name x p) X.env := by rfl)
    (hfew : ((backTo cpos (starEach [a] X.env)).all (fun x => !x.1) && (backToKw cpos (keywordEach [] X.env)).all (fun x => x.1.isSome)
      && decide (([a] : List Expr).length + ([] : List Keyword).length + (if ([] : List Keyword).isEmpty then 0 else 1) < 30)) = true := by rfl)
    (hline : (apos.endLine == cpos.line) = true := by rfl) (hs : starEach [a] X.env = (false, eval a X.env) :: starEach [] X.env := by rfl) (hplain : (backTo cpos (starEach [] X.env)).any (·.1) = false := by rfl)
    (hsw : swapsWith (.Call (.Attribute (.Name x p) "append" apos) [a] [] cpos) none pos.line X.env = pure false := by rfl) :
    DS X C W (appOb i fa) (.Expr (.Call (.Attribute (.Name x p) "append" apos) [a] [] cpos) pos) := fun w0 H0 N0 =>
  PS.imp (ps_expr (pe_bm PySem.F.plainAttrs_list PySem.F.slot_list_append PySem.F.type_list_append mt_append (pv i hN hv hd hcd) (pa_cons ha pa_nil hs) hbase hfew hline hs hplain) hsw) fun Dn σ H ⟨w, st, O, ρ, rel, h⟩ => by
    unfold appOb slotOb at h
    cases e : ρ[i]? with
    | none => rw [e] at h; exact h.elim
    | some s =>
      rw [e] at h
      cases s with
      | val d =>
        cases e2 : obIx d with
        | none => simp only [e2] at h; exact h.elim
        | some n =>
          simp only [e2] at h
          have e3 := obIx_of e2
          subst e3
          obtain ⟨v, ev, _, v', e4, rv⟩ := rel.rel.slot i _ e
          subst e4
          obtain ⟨b, rfl, hb⟩ := rv.inO
          cases e5 : st[n]? with
          | none => rw [e5] at h; exact h.elim
          | some ob =>
            rw [e5] at h
            cases ob with
            | lst ds0 =>
              obtain ⟨hp, vs, h3, z, h4⟩ := ob_lst rel.rel.ok hb e5
              refine ⟨.ref b, ev, .inl ⟨rfl, vs, SqL.of h3⟩, w, st, O, ρ, rel.rel, (ofE_imp h rel).mono fun w1 H1 d st1 g1 k1 ⟨r1, h1'⟩ v rv => ?_⟩
              cases e6 : st1[n]? with
              | none => rw [e6] at h1'; exact h1'.elim
              | some ob =>
                rw [e6] at h1'
                cases ob with
                | lst ds =>
                  obtain ⟨hp1, us, h3', z', h4'⟩ := ob_lst k1 (g1.pre _ _ hb) e6
                  simp only at h1'
                  by_cases hz : ds.length < 16777216
                  · rw [if_pos hz] at h1'
                    have z0 := size_line
                    refine ⟨b, us, v, rfl, rfl, h3', by rw [h4'.length]; omega, ?_⟩
                    have kk := k1.setLst hp1 (h4'.append (.cons rv .nil)) (by simp; omega)
                    exact h1' w1 O σ _ (r1.growE (Grow.setIn ⟨[b], List.mem_of_getElem? hp1, by simp⟩ ⟨_, h3'⟩) kk)
                  · rw [if_neg hz] at h1'; exact h1'.elim
                | _ => exact h1'.elim
            | _ => exact h.elim
      | _ => exact h.elim
theorem de_lenOb (i : Nat) {pn : Pos} (hm : X.mg "len" = none) (hN : X.N[i]? = some x := by rfl) (hv : Vis X.env.scope x := by first | exact Or.inl rfl | exact Or.inr (Or.inl rfl) | exact Or.inr (Or.inr rfl))
    (hd : (x == ("__debug__" : Str)) = false := by decide) (hcd : (x == ("__classdict__" : Str)) = false := by decide) (hg : Gl X "len" := by rfl)
    (h1 : starEach [Expr.Name x p] X.env = (false, eval (.Name x p) X.env) :: starEach [] X.env := by rfl) (h2 : (backTo pos (starEach [] X.env)).any (·.1) = false := by rfl) : DE X C W (lenOb i) (.Call (.Name "len" pn) [.Name x p] [] pos) :=
  PE.imp (pe_callB call_len hg hm PySem.boot_len (pa_cons (pv i hN hv hd hcd) pa_nil h1) (by decide) (by decide) h1 h2) fun σ H Q ⟨w, st, O, ρ, rel, h⟩ => by
    unfold lenOb slotOb at h
    cases e : ρ[i]? with
    | none => rw [e] at h; exact h.elim
    | some s =>
      rw [e] at h
      cases s with
      | val d =>
        cases e2 : obIx d with
        | none => simp only [e2] at h; exact h.elim
        | some n =>
          simp only [e2] at h
          have e3 := obIx_of e2
          subst e3
          obtain ⟨v, ev, _, v', e4, rv⟩ := rel.slot i _ e
          subst e4
          obtain ⟨b, rfl, hb⟩ := rv.inO
          cases e5 : st[n]? with
          | none => rw [e5] at h; exact h.elim
          | some ob =>
            rw [e5] at h
            cases ob with
            | lst ds =>
              obtain ⟨hp, vs, h3, z, h4⟩ := ob_lst rel.ok hb e5
              exact ⟨.ref b, ev, .ref b, vs.length, rfl, .inl ⟨vs, SqL.of h3, rfl⟩, Out.here h rel.ok _ (by rw [h4.length]; exact .int _)⟩
            | _ => exact h.elim
      | _ => exact h.elim
end
end BF

/-! BF9: a def made; isinstance; an error caught and kept. -/
namespace BF
open PySem L2

/-! ### a def made -/
def fnB (n : Nat) (body : SF) : Fn := fun ds st => match body (ds.map .val ++ List.replicate (n - ds.length) .emp) st with
  | .nx _ st => .ok .none st
  | .rt d st => .ok d st
  | .err c _ st => .err c st
  | _ => .bad
section
variable {P : Program} {wo : World} {K : PySem.W.Frag} {mg : Str → Option Value} {base : Heap} {C : Nat → Addr} {x qual : Str} {st : Stmt} {f : Addr} {fd : FuncData} {N ps : List Str} {k : Nat} {body : SF}
theorem slots_start {w : Wd} {H : Hp} : ∀ {vs : List V} {ds : List D} {m : Nat}, RepA (w.env K C) vs ds → ∀ (i : Nat) (s : Slot), (ds.map Slot.val ++ List.replicate m .emp)[i]? = some s → ∃ v, (vs.map some ++ List.replicate m none)[i]? = some v ∧ SlotOk (w.env K C) H [] v s
  | _, _, m, .nil, i, s, h => by
    simp only [List.map_nil, List.nil_append, List.getElem?_replicate] at h ⊢
    split at h
    · rename_i hi
      cases h
      exact ⟨none, by rw [if_pos hi], rfl⟩
    · cases h
  | _, _, m, .cons r t, 0, s, h => by
    cases h
    exact ⟨_, rfl, rfl, _, rfl, r⟩
  | _, _, m, .cons r t, i + 1, s, h => by simpa using slots_start t i s (by simpa using h)
theorem body_in {w : Wd} {s : Sto} {H : Hp} {vs : List V} {ds : List D} {Q : VK} {E : XK} (k : Ok K C w s H) (r : RepA (w.env K C) vs ds)
    (h : match fnB N.length body ds s with
      | .ok d st' => ∀ v w' H', Grow w H w' H' → Ok K C w' st' H' → Rep (w'.env K C) v d → Q v H'
      | .err c st' => ∀ w' H', Grow w H w' H' → Ok K C w' st' H' → E (.ref (C c)) none H'
      | .bad => False) : tS K C (fun cls d _ H => E cls d H) w H (w.env K C) body { nx := fun _ H' => Q .non H', rt := Q } (L2.start N vs) H := by
  refine ⟨w, s, fun _ => [], ds.map .val ++ List.replicate (N.length - ds.length) .emp, ⟨⟨k, ?_, ?_, fun _ _ => rfl, fun _ _ h => by simp at h, fun _ _ _ h => by simp at h⟩, .refl _ _, fun _ _ h => by simp at h, .refl _⟩, ?_⟩
  · simp [L2.start, r.length]
  · intro i sl hs
    unfold L2.start
    rw [r.length]
    exact slots_start r i sl hs
  · unfold fnB at h
    revert h
    cases body (ds.map .val ++ List.replicate (N.length - ds.length) .emp) s with
    | nx ρ st => exact fun h w' O σ H' q => h .non w' H' q.grow q.rel.ok .non
    | rt d st => exact fun h v w' H' g k r => h v w' H' g k r
    | err c ρ st => exact fun h w' O σ H' q => h w' H' q.grow q.rel.ok
    | bk ρ st => exact fun h => h.elim
    | ct ρ st => exact fun h => h.elim
    | bad => exact fun h => h
theorem has_mk (F : FunD K x qual (defArgs st) (defBody st) (defScope st) [] [] f fd) (hm : mg x = some (.ref f)) (S : FnScope N ps (defScope st))
    (hb : ∀ (dc pm : Value) (an : Option Addr) (cdv ct kV : Value) (us : List Value), us.length = ps.length → bindArgs (PySem.W.fnOf x qual (defArgs st) (defBody st) (defScope st) .none kV dc pm an cdv ct) ⟨us, []⟩ = pure (ps.zip us))
    (hbody : ∀ (cdv : Value) (A : Around) (outer : List Env) (s : Shared) (H : Hp) (E : XK), G (cxOf (L2.CX P wo) P wo K mg base N qual (defScope st) f cdv A outer s H E) C (fun cls d _ H => E cls d H) k →
      DSs (cxOf (L2.CX P wo) P wo K mg base N qual (defScope st) f cdv A outer s H E) C (fun cls d _ H => E cls d H) body (defBody st)) : Has P wo K mg base C x ps.length (k + 1) (fnB N.length body) := by
  refine ⟨f, fd, ps, F.ok S (fun vs H Q E h => ?_) (fun cdv A outer s H vs Q E hr h => ?_), hm, F.kp, F.bindsN fun a b c d e g us hl => hb b c d e g a us hl⟩
  · obtain ⟨w, st, ds, k, r, hl, _⟩ := h
    rw [r.length, hl]
  · obtain ⟨w, st, ds, k1, r, hl, h⟩ := h
    refine ⟨_, hbody cdv A outer s H E ⟨rfl, S.nd, hr, takes_of rfl rfl rfl rfl, PassesOwn.leaving⟩ w H (w.env K C), body_in k1 r h⟩
end

/-! ### isinstance(x, T), T a built-in class -/
def tyN : D → Option String
  | .none => some "NoneType"
  | .bool _ => some "bool"
  | .int _ => some "int"
  | .str _ => some "str"
  | .list _ => some "list"
  | .tuple _ => some "tuple"
  | .dict _ => none
def isiD (T : String) : D → Option D := fun d => (tyN d).bind fun n => (kitB n T).map .bool
section
variable {X : Cx} {C : Nat → Addr} {W : WX} {a : Expr} {fa : EF} {y : Str} {T : String} {p p2 pos : Pos}
theorem tyx_of {K : PySem.W.Frag} {w : Wd} {st : Sto} {H : Hp} {v : V} {d : D} {n : String} (k : Ok K C w st H) (r : Rep (w.env K C) v d) (h : tyN d = some n) : TyX K H v (.type n) := by
  cases r with
  | non => cases h; exact .base .non
  | bl b => cases h; exact .base (.bl b)
  | int i => cases h; exact .base (.int i)
  | str x => cases h; exact .base (.str x)
  | lst ha z r => cases h; exact .base (.lst (k.sub _ _ ha))
  | tup ha z r => cases h; exact .base (.tup (k.sub _ _ ha))
  | _ => cases h
theorem de_isi (ha : DE X C W fa a) (hm : X.mg "isinstance" = none) (hmT : X.mg y = none) (hv : bootBuiltins y = some (.type T)) (hg : Gl X "isinstance" := by rfl) (hgT : Gl X y := by rfl) (hn : y ≠ "__name__" := by decide) (hdb : (y == ("__debug__" : Str)) = false := by decide)
    (h1 : starEach [a, .Name y p2] X.env = (false, eval a X.env) :: starEach [.Name y p2] X.env := by rfl) (h1b : starEach [Expr.Name y p2] X.env = (false, eval (.Name y p2) X.env) :: starEach [] X.env := by rfl) (h2 : (backTo pos (starEach [Expr.Name y p2] X.env)).any (·.1) = false := by rfl) :
    DE X C W (lift1 (isiD T) fa) (.Call (.Name "isinstance" p) [a, .Name y p2] [] pos) :=
  PE.imp (pe_callB call_isi hg hm (by decide +kernel) (pa_cons ha (pa_cons (pe_bltn (v := .ty T) hgT hmT hv rfl hn hdb) pa_nil h1b) h1) (by decide) (by decide) h1 h2) fun σ H Q ⟨w, st, O, ρ, rel, h⟩ => by
    refine ⟨w, st, O, ρ, rel, (Out.bnd h).mono fun w1 H1 d st1 g1 k1 h1 v rv => ?_⟩
    unfold isiD at h1
    cases e : tyN d with
    | none => rw [e] at h1; exact h1.elim
    | some n =>
      rw [e] at h1
      cases e2 : kitB n T with
      | none => simp only [Option.bind_some, e2] at h1; exact h1.elim
      | some b =>
        simp only [Option.bind_some, e2] at h1
        exact ⟨v, .ty T, .type n, .type T, b, rfl, .ty T, tyx_of k1 rv e, kit_ty e2, Out.here h1 k1 _ (.bl b)⟩
end

/-! ### errors kept -/
structure ExK (K : PySem.W.Frag) (C : Nat → Addr) (m : Nat) : Prop where
  ok : ∀ c, c < m → ExcC K (C c)
  eq : ∀ c c', c < m → c' < m → PySem.W.kitOne K (.ref (C c)) (.ref (C c')) = some (c == c')
  ve : ∀ c, c < m → PySem.W.kitOne K (.ref (C c)) (.type "ValueError") = some true
def exIx : D → Option Nat
  | .dict [(.bool true, .int i)] => if 0 ≤ i then some i.toNat else none
  | _ => none
theorem exIx_of {d : D} {n : Nat} (h : exIx d = some n) : d = D.ex n := by
  unfold exIx at h
  split at h
  · rename_i i
    split at h
    · rename_i h0
      cases h
      rw [D.ex, Int.toNat_of_nonneg h0]
    · cases h
  · cases h
theorem Rep.inE {N : Nv} {v : V} {n : Nat} (r : Rep N v (D.ex n)) : ∃ a, v = .ref a ∧ N.F a = some (ExT (.ref (N.C n)) a) := by
  generalize hd : D.ex n = d at r
  cases r with
  | ex h => rename_i a i; injection hd with hd; injection hd with hd; injection hd with _ hd; injection hd with hd; rw [show n = i by omega]; exact ⟨a, rfl, h⟩
  | ob h => injection hd with hd; injection hd with hd; injection hd with hd; cases hd
  | scr h => injection hd with hd; injection hd with hd; injection hd with hd; cases hd
  | dK h z r =>
    cases hd
    cases r with
    | @cons ky => rename_i r1 r2 r3; cases ky <;> cases r1
  | dT h z r => cases hd
  | _ => cases hd
/-- isinstance(x, the c'-th class) -/
def isED (m c' : Nat) : D → Option D := fun d => (exIx d).bind fun c => if c < m then some (.bool (c == c')) else none
def isEV (m : Nat) : D → Option D := fun d => (exIx d).bind fun c => if c < m then some (.bool true) else none
def rIsX (K : PySem.W.Frag) : List V → Hp → VK → Prop := fun xs H Q => ∃ (a D : Addr) (c : V) (cv : Value) (b : Bool), xs = [.ref a, c] ∧ H a = some (ExT (.ref D) a) ∧ ExcC K D ∧ (∀ u, RelV c u → u = cv) ∧ PySem.W.kitOne K (.ref D) cv = some b ∧ Q (.bl b) H
section
variable {X : Cx} {C : Nat → Addr} {W : WX} {a : Expr} {fa : EF} {y : Str} {p p2 pos : Pos} {m c' : Nat}
theorem call_isX : CallR X (.builtin "isinstance") (rIsX X.K) := fun pins s σ H xs us Q I r ⟨b, D, c, cv, t, e1, hb, hC, hcv, e, q⟩ => by
  subst e1
  obtain ⟨u1, u2, rfl, r1, r2⟩ := vals2 r
  have ec := hcv _ r2
  subst ec
  cases r1
  obtain ⟨⟨oe, hget, hz, vs, hv⟩, _⟩ := I.hok b _ hb
  have J : PySem.W.InstAt s.heap b oe D none := by
    obtain ⟨oc, od, oda, osl⟩ := oe
    obtain ⟨h1, h2⟩ := hz
    simp only at h1 h2 hv
    subst h1 h2 hv
    exact ⟨hget, rfl, rfl, trivial⟩
  exact PySem.W.kia_one (PySem.W.handS_kitx_exc hC.hg hC.hk hC.hs hC.hd hC.ha hC.hn hC.ht hC.hm) I.kIn J e (fun z => nomatch z) fun tk => ⟨.bl t, H, I.kept (t' := tk) fun _ _ z => z, rfl, q⟩
theorem de_isE (EK : ExK X.K C m) (hc : c' < m) (ha : DE X C W fa a) (hm : X.mg "isinstance" = none) (hmT : X.mg y = some (.ref (C c'))) (hg : Gl X "isinstance" := by rfl) (hgT : Gl X y := by rfl) (hdb : (y == ("__debug__" : Str)) = false := by decide)
    (h1 : starEach [a, .Name y p2] X.env = (false, eval a X.env) :: starEach [.Name y p2] X.env := by rfl) (h1b : starEach [Expr.Name y p2] X.env = (false, eval (.Name y p2) X.env) :: starEach [] X.env := by rfl) (h2 : (backTo pos (starEach [Expr.Name y p2] X.env)).any (·.1) = false := by rfl) :
    DE X C W (lift1 (isED m c') fa) (.Call (.Name "isinstance" p) [a, .Name y p2] [] pos) :=
  PE.imp (pe_callB call_isX hg hm (by decide +kernel) (pa_cons ha (pa_cons (pe_glob (v := .ref (C c')) hgT hmT rfl hdb) pa_nil h1b) h1) (by decide) (by decide) h1 h2) fun σ H Q ⟨w, st, O, ρ, rel, h⟩ => by
    refine ⟨w, st, O, ρ, rel, (Out.bnd h).mono fun w1 H1 d st1 g1 k1 h1 v rv => ?_⟩
    unfold isED at h1
    cases e : exIx d with
    | none => rw [e] at h1; exact h1.elim
    | some n =>
      simp only [e, Option.bind_some] at h1
      split at h1
      · rename_i hn
        have ed := exIx_of e
        subst ed
        obtain ⟨b, rfl, hb⟩ := rv.inE
        exact ⟨b, C n, .ref (C c'), .ref (C c'), _, rfl, k1.sub _ _ hb, EK.ok n hn, fun u r => r, EK.eq n c' hn hc, Out.here h1 k1 _ (.bl _)⟩
      · exact h1.elim
theorem de_isV (EK : ExK X.K C m) (ha : DE X C W fa a) (hm : X.mg "isinstance" = none) (hmT : X.mg "ValueError" = none) (hg : Gl X "isinstance" := by rfl) (hgT : Gl X "ValueError" := by rfl)
    (h1 : starEach [a, .Name "ValueError" p2] X.env = (false, eval a X.env) :: starEach [.Name "ValueError" p2] X.env := by rfl) (h1b : starEach [Expr.Name "ValueError" p2] X.env = (false, eval (.Name "ValueError" p2) X.env) :: starEach [] X.env := by rfl) (h2 : (backTo pos (starEach [Expr.Name "ValueError" p2] X.env)).any (·.1) = false := by rfl) :
    DE X C W (lift1 (isEV m) fa) (.Call (.Name "isinstance" p) [a, .Name "ValueError" p2] [] pos) :=
  PE.imp (pe_callB call_isX hg hm (by decide +kernel) (pa_cons ha (pa_cons (pe_bltn (v := .ty "ValueError") hgT hmT (by decide +kernel) rfl (by decide) (by decide)) pa_nil h1b) h1) (by decide) (by decide) h1 h2) fun σ H Q ⟨w, st, O, ρ, rel, h⟩ => by
    refine ⟨w, st, O, ρ, rel, (Out.bnd h).mono fun w1 H1 d st1 g1 k1 h1 v rv => ?_⟩
    unfold isEV at h1
    cases e : exIx d with
    | none => rw [e] at h1; exact h1.elim
    | some n =>
      simp only [e, Option.bind_some] at h1
      split at h1
      · rename_i hn
        have ed := exIx_of e
        subst ed
        obtain ⟨b, rfl, hb⟩ := rv.inE
        exact ⟨b, C n, .ty "ValueError", .type "ValueError", _, rfl, k1.sub _ _ hb, EK.ok n hn, fun u r => r, EK.ve n hn, Out.here h1 k1 _ (.bl _)⟩
      · exact h1.elim
end
end BF

/-! BF10: try .. except X as e: name = e; the error stands in the name from then on. -/
namespace BF
open PySem L2 PyProof.Rows

section
variable {X : Cx} {pins : List (Addr × Obj)} {σ : L2.St} {H : Hp} {s : Shared}
/-- an object that came after the entry, seen by nobody, is tracked from now on -/
theorem Inv.track {a : Addr} {o : HO} (I : L2.Inv X pins σ H s) (h0 : X.s_0.heap.get? a = none) (hn : H a = none) (hL : a ≠ X.env.locals) (hc : ∀ x c, X.env.cells.lookup x = some c → c ≠ a) (hp : ∀ p ∈ X.pn ++ pins, p.1 ≠ a)
    (ho : ObjOk X.prog X.w (L2.upd H a o) s.heap a o) : L2.Inv X pins σ (L2.upd H a o) s where
  ok := I.ok
  os := I.os
  bare := I.bare
  base := ⟨I.base.keep, I.base.slot, fun b u e n hx => by rw [upd_ne (fun z => by rw [z, h0] at e; cases e)]; exact I.base.free b u e n hx, I.base.there,
    fun b xs e => by rw [upd_ne (ne_of_none (I.base.tups b xs e) hn)]; exact I.base.tups b xs e,
    fun b u xs e => by rw [upd_ne (ne_of_none (I.base.frzs b u xs e) hn)]; exact I.base.frzs b u xs e,
    fun b ps e => by
      obtain ⟨more, q⟩ := I.base.tbls b ps e
      exact ⟨more, by rw [upd_ne (ne_of_none q hn)]; exact q⟩⟩
  loc := I.loc
  cell := I.cell
  free := by rw [upd_ne (Ne.symm hL)]; exact I.free
  freeC := fun x c e => by rw [upd_ne (hc x c e)]; exact I.freeC x c e
  pin := fun p q => by
    obtain ⟨h1, h2, h3, h4, h5⟩ := I.pin p q
    exact ⟨h1, by rw [upd_ne (hp p q)]; exact h2, h3, h4, h5⟩
  hok := fun b u e => by
    by_cases hb : b = a
    · subst hb
      rw [upd_same] at e
      cases e
      exact ho
    · rw [upd_ne hb] at e
      exact (I.hok b u e).stay (fun _ _ _ q => q) (fun c q => by rw [upd_ne (ne_of_none q hn)]; exact q) fun c xs q => by rw [upd_ne (ne_of_none q hn)]; exact q
  len := I.len
end

/-- what a clause that keeps its error wishes: i: the clause's own name, j: the name it is kept in -/
def wKeep (K : PySem.W.Frag) (c : Value) (i j : Nat) (Dn : Ends) : WX := fun cls d σ H => d = none ∧ PySem.W.exmOne K cls c = some true ∧ ∀ a, H a = none → Dn.nx (((σ.set i (some (.ref a))).set j (some (.ref a))).set i none) (L2.upd H a (ExT cls a))
section
variable {X : Cx} {x n m : Str} {c : Value} {i j : Nat} {body : List Stmt} {np mp ep sp pos pos' : Pos} {tb : WX → TS}
theorem ps_keep (hs : X.stack = X.env :: X.outer) (hf : X.env.frame = some X.env.locals) (hex : X.ex = []) (hN : X.N.Nodup) (hi : X.N[i]? = some n) (hj : X.N[j]? = some m) (hln : X.env.kindOf n = some .local) (hlm : X.env.kindOf m = some .local) (hc : Names X x c)
    (hdb : (n == ("__debug__" : Str)) = false) (hcd : (n == ("__classdict__" : Str)) = false) (hsw : swapsWith (.Name n ep) (some (.Name m mp)) sp.line X.env = pure false)
    (hb : ∀ (W : WX) (pn : List (Addr × Obj)) (xe : Value → Shared → Prop), Takes (X.tr pn xe) W → PassesOwn (model X.prog X.w) X.A X.env xe → PSs (X.tr pn xe) body (tb W)) :
    PS X (.Try body [.ExceptHandler (some (.Name x np)) (some n) [.Assign [.Name m mp] (.Name n ep) sp] pos'] [] [] pos) (fun Dn σ H => tb (wKeep X.K c i j Dn) Dn σ H) := by
  refine ⟨fun pl st0 ρ HH Dn I0 hw => ?_⟩
  have okX := I0.ok
  have frX : X.A.frames = some (X.env :: X.outer) := by rw [okX.frames, hs]
  have locX : Loc X.env.scope n := .inl hln
  refine wpAny_Try_except ?_
  refine wpAny_mono ((hb (wKeep X.K c i j Dn) (X.pn ++ pl) (fun ev sA => wpAny (model X.prog X.w) X.A (noteFrame ev X.env) (fun _ sB => wpAny (model X.prog X.w) X.A (setFlight ev none) (fun _ sC =>
    wpAny (model X.prog X.w) X.A (handleBy ev X.env [.ExceptHandler (some (.Name x np)) (some n) [.Assign [.Name m mp] (.Name n ep) sp] pos']) (SP X pl Dn) X.xe sC) X.xe sB) X.xe sA) (fun u sE flying => ?_) PassesOwn.looking).run [] st0 ρ HH Dn (I0.toTry _) hw) (fun fl sF hsp => ?_) (fun _ _ he => he)
  · obtain ⟨a, B, sI, pq, τ, HE, cls, d, rfl, JT, nbB, upE, skyE, naH, osE, agE, ed, eb, hyes⟩ := flying
    subst ed
    have J0 : L2.Inv X pl τ HE sI := JT.ofTry okX
    have skyX : Sky B (X.env :: X.outer) a (Zc cls none) X.env.locals sE.heap := by rw [← hs]; exact skyE
    show wpAny (model X.prog X.w) X.A (noteFrame (.ref a) X.env) _ _ _
    refine Sky.land Zc.steady frX hf skyX fun hC flC upC => ?_
    have J1 : L2.Inv X pl τ HE { sE with heap := hC } := J0.landed nbB flC.1 (upE.trans upC) osE agE
    obtain ⟨oC, vC, heC, hzC, hdC⟩ := flC.there
    have noFrame : ∀ {g : Heap} {ob : Obj} {ws : Array Value}, g.FunFrames B (X.env :: X.outer) → g.get? a = some ob → ob.data = .fields ws → a ∉ frs (X.env :: X.outer) := fun {g ob ws} ff e dd hm => by
      obtain ⟨_, o', e', nf⟩ := ff.mem hm
      rw [e] at e'
      cases e'
      exact nf _ dd
    have nfr := noFrame flC.2.2.1 heC hdC
    have nloc : a ≠ X.env.locals := fun z => nfr (List.mem_filterMap.mpr ⟨X.env, List.mem_cons_self, by rw [hf, z]⟩)
    have nfs : a ∉ X.fs := fun hm => by
      obtain ⟨ee, he, q⟩ := List.mem_filterMap.mp hm
      exact nfr (List.mem_filterMap.mpr ⟨ee, List.mem_cons_of_mem _ he, q⟩)
    -- it was not there at the entry
    have notB : B.get? a = none := flC.2.1
    have notI : sI.heap.get? a = none := by
      cases q : sI.heap.get? a with
      | none => rfl
      | some o =>
        have := nbB a o q (by rw [hs]; exact nfr)
        rw [notB] at this; cases this
    have not0 : X.s_0.heap.get? a = none := by
      cases q : X.s_0.heap.get? a with
      | none => rfl
      | some o =>
        obtain ⟨o', e'⟩ := J0.base.there a o q (by rw [hex]; simp)
        rw [notI] at e'; cases e'
    have S1 := J1.suite heC hdC naH nloc nfs
    refine wpAny_handleBy_cons (codeAny_handlers_test ?_) (by intro q; cases q)
    have lookT : PySem.W.Looks (model X.prog X.w) hC (typeOf (.ref a)) cls := fun A Q E s k q => wpAny_typeOf_ref (k _ _ heC) (by rw [hzC.1]; exact q)
    have lookM := PySem.W.exm_one (M := model X.prog X.w) (J1.kIn) lookT eb
    have named : ∀ {Q : Value → Shared → Prop} {E : Value → Shared → Prop}, Q c { sE with heap := hC } → wpAny (model X.prog X.w) (X.A.mark (some (.ref a))) (eval (.Name x np) X.env) Q E { sE with heap := hC } := fun {Q E} q => by
      obtain ⟨hg, hdbg, hm | ⟨hm, hv, hnn⟩⟩ := hc
      · exact ld_glob (X := X.suite a ((a, oC) :: (X.pn ++ pl))) S1 hg hm q hdbg
      · exact ld_blt (X := X.suite a ((a, oC) :: (X.pn ++ pl))) S1 hg hm hv q hnn hdbg
    refine named (lookM.here ?_)
    refine codeAny_handlers_suite_as ?_
    refine HandSPX.lands_againZ flC fun hD flD upD => ?_
    have J2 : L2.Inv X pl τ HE { sE with heap := hD } := J0.landed nbB flD.1 ((upE.trans upC).trans upD) osE agE
    obtain ⟨oD, vD, heD, hzD, hdD⟩ := flD.there
    have S2 := J2.suite heD hdD naH nloc nfs
    refine store_ok (X := X.suite a ((a, oD) :: (X.pn ++ pl))) (v := .ref a) S2 hN hi locX rfl (fun sG SG => ?_) (.inr hln)
    -- the suite: m = n
    have hil : i < τ.length := by rw [J0.len]; exact (List.getElem?_eq_some_iff.mp hi).1
    have suiteS : PSs (X.suite a ((a, oD) :: (X.pn ++ pl))) [.Assign [.Name m mp] (.Name n ep) sp] (tAsg (tVar i) (gName j)) :=
      pss_one (ps_set hN hj (.inl hlm) (pe_var hi (.inl hln) hdb hcd) hsw (.inr hlm))
    refine wpAny_mono (suiteS.run [] sG _ HE { nx := fun σ' H' => σ' = ((τ.set i (some (.ref a))).set j (some (.ref a))) ∧ H' = HE, rt := fun _ _ => False } SG ⟨.ref a, by rw [List.getElem?_set_self hil], rfl, rfl⟩) (fun fl sK hsp => ?_) (fun _ _ z => False.elim z)
    cases fl with
    | next =>
      obtain ⟨σK, HK, SK, eσ, eH⟩ := hsp
      subst eσ eH
      obtain ⟨hat, _⟩ := SK.pin (a, oD) (List.mem_append_left _ List.mem_cons_self)
      have JK : L2.Inv X pl _ HK sK := SK.unsuite okX
      have JT : L2.Inv X pl _ (L2.upd HK a (ExT cls a)) sK := Inv.track JK not0 naH nloc (fun y cc e z => by
          obtain ⟨v, ob, ho, hv⟩ := JK.cell y cc e
          rw [z, hat] at ho
          cases ho
          rw [hdD] at hv; cases hv) (fun p hp z => by
          obtain ⟨h1, _⟩ := J0.pin p hp
          rw [z, notI] at h1; cases h1) (exT_ok hat hzD hdD)
      exact gone_ok JT hN hi hln fun sZ JZ => ⟨_, _, JZ, hyes a naH⟩
    | brk => obtain ⟨_, _, _, z⟩ := hsp; exact z.elim
    | cont => obtain ⟨_, _, _, z⟩ := hsp; exact z.elim
    | ret u => obtain ⟨_, _, _, _, _, z⟩ := hsp; exact z.elim
  · cases fl with
    | next =>
      obtain ⟨σ', H', JJ, q⟩ := hsp
      exact wpAny_execs_nil ⟨σ', H', JJ.ofTry okX, q⟩
    | brk =>
      obtain ⟨σ', H', JJ, q⟩ := hsp
      exact ⟨σ', H', JJ.ofTry okX, q⟩
    | cont =>
      obtain ⟨σ', H', JJ, q⟩ := hsp
      exact ⟨σ', H', JJ.ofTry okX, q⟩
    | ret u =>
      obtain ⟨v, σ', H', JJ, r, q⟩ := hsp
      exact ⟨v, σ', H', JJ.ofTry okX, r, q⟩
end
end BF

/-! BF11: the try as a statement; methods of lists. -/
namespace BF
open PySem L2

def keepS (m i j : Nat) (body : SF) : SF := fun ρ st => match body ρ st with
  | .err c ρ' st' => if c < m then .nx (((ρ'.set i .emp).set j (.val (D.ex c))).set i .emp) st' else .bad
  | o => o
section
variable {X : Cx} {C : Nat → Addr} {W : WX} {k : Nat} {fb : SF} {body : List Stmt} {x n y : Str} {c : Value} {np mp ep sp pos pos' : Pos} {m : Nat}
theorem ds_keep (i j : Nat) (g : G X C W k) (hx : ∀ c', c' < m → PySem.W.exmOne X.K (.ref (C c')) c = some true) (hb : ∀ (W' : WX) (pn : List (Addr × Obj)) (xe : Value → Shared → Prop), G (X.tr pn xe) C W' k → DSs (X.tr pn xe) C W' fb body) (hc : Names X x c)
    (hs : X.stack = X.env :: X.outer := by rfl) (hf : X.env.frame = some X.env.locals := by rfl) (hex : X.ex = [] := by rfl) (hi : X.N[i]? = some n := by rfl) (hj : X.N[j]? = some y := by rfl) (hln : X.env.kindOf n = some .local := by rfl) (hlm : X.env.kindOf y = some .local := by rfl)
    (hdb : (n == ("__debug__" : Str)) = false := by decide) (hcd : (n == ("__classdict__" : Str)) = false := by decide) (hsw : swapsWith (.Name n ep) (some (.Name y mp)) sp.line X.env = pure false := by rfl) :
    DS X C W (keepS m i j fb) (.Try body [.ExceptHandler (some (.Name x np)) (some n) [.Assign [.Name y mp] (.Name n ep) sp] pos'] [] [] pos) := fun w0 H0 N0 =>
  PS.imp (ps_keep (tb := fun W' => tS X.K C W' w0 H0 N0 fb) hs hf hex g.nd hi hj hln hlm hc hdb hcd hsw fun W' pn xe tk ow => hb W' pn xe ⟨g.calm, g.nd, g.room, tk, ow⟩ w0 H0 N0) fun Dn σ H ⟨w, st, O, ρ, rel, h⟩ => by
    refine ⟨w, st, O, ρ, rel, ?_⟩
    unfold keepS at h
    revert h
    cases fb ρ st with
    | nx ρ' st' => exact fun h => h
    | rt d st' => exact fun h => h
    | bk ρ' st' => exact fun h => h
    | ct ρ' st' => exact fun h => h
    | bad => exact fun h => h
    | err c' ρ' st' =>
      intro h w O σ H r
      simp only at h
      split at h
      · rename_i hm
        refine ⟨rfl, hx c' hm, fun a ha => ?_⟩
        have k1 := r.rel.ok
        have r1 := r.growE (Grow.fz (o := ExT (.ref (C c')) a) k1 ha) (Ok.fz k1 ha)
        have hrep : Rep ((w.fz a (ExT (.ref (C c')) a)).env X.K C) (.ref a) (D.ex c') := .ex (show L2.upd w.F a _ a = _ from upd_same)
        have q1 := r1.rel.setTo i (s := .emp) (o := some (.ref a)) rfl
        have q2 := q1.setVal j hrep
        have q3 := q2.setTo i (s := .emp) (o := none) rfl
        exact h _ _ _ _ (r1.to q3 fun l b hb => clr_sub (clr_sub (clr_sub hb)))
      · exact h.elim
end

/-! ### methods of lists that are read -/
def gCount : D → D → Option D
  | .list ds, d => if (SeqAt.shaped (.list ds) && SeqAt.shaped d) = true then some (.int ((ds.countP fun z => PyData.eqv z d : Nat) : Int)) else none
  | _, _ => none
def gIndex : D → D → Option D
  | .list ds, d => if (SeqAt.shaped (.list ds) && SeqAt.shaped d) = true then (ds.findIdx? fun z => PyData.eqv z d).map fun j => .int (j : Nat) else none
  | _, _ => none
def rCountD (K : PySem.W.Frag) : V → List V → Hp → VK → Prop := fun x xs H Q => ∃ (a : Addr) (y : V) (d : D) (ds : List D), x = .ref a ∧ xs = [y] ∧ Dp K H (.ref a) (.list ds) ∧ Dp K H y d ∧ SeqAt.shaped (.list ds) = true ∧ SeqAt.shaped d = true ∧ Q (.int ((ds.countP fun z => PyData.eqv z d : Nat) : Int)) H
section
variable {X : Cx} {K : PySem.W.Frag} {C : Nat → Addr} {W : WX} {k : Nat}
theorem mt_countD (hu : X.A.units + 65 < cLine) : MtR X "list.count" (rCountD X.K) := fun pins s σ H x xs v us Q I rx rxs ⟨a, y, d, ds, e1, e2, hl, hy, sl, sd, q⟩ => by
  subst e1 e2
  cases rx
  obtain ⟨uy, rfl, ry⟩ := rxs.one
  obtain ⟨bs, r1⟩ := Dp.reads I d y uy hy ry
  have hxs : PyData.canLayAll0 ds = true := SeqAt.canLay_of_shaped sl
  have hroom : X.A.units + 1 + min (PyData.depthAll ds) d.depth < cLine := PyProof.Rows.room_in_shaped sd hu
  cases hl with
  | lst hs ha =>
    obtain ⟨its, rv, ⟨⟨cls, dd, data, sls⟩, n, ho, hc, hdn, hdt⟩, hlen⟩ := I.list hs
    simp only at hc hdt
    subst hc hdt
    obtain ⟨as, h4⟩ := Dp.readsAll I ds _ its ha rv
    have hmap : its.map (SeqAt.readOf s.heap) = ds := SeqAt.readsAll_map ds its as hxs h4
    refine call_meets PySem.F.slot_list_count ⟨_, ho, rfl⟩ PySem.F.entry_list_count (PySem.F.args_list_count_2 _ _) (SeqAt.list_countAt a its.toArray n dd sls uy (fun u => PyData.eqv (SeqAt.readOf s.heap u) d))
      ⟨ho, SeqAt.items_eqAt (vs := its.toArray) (show ReadsAll s.heap its.toArray.toList ds as from h4) r1 hxs (SeqAt.canLay_of_shaped sd) hroom, ?_⟩
    refine ⟨.int _, H, I.tok _, ⟨_, rfl⟩, ?_⟩
    have e : its.countP (fun u => PyData.eqv (SeqAt.readOf s.heap u) d) = ds.countP fun z => PyData.eqv z d := by
      rw [← hmap, List.countP_map]
      rfl
    show Q (.int ((its.countP (fun u => PyData.eqv (SeqAt.readOf s.heap u) d) : Nat) : Int)) H
    rw [e]
    exact q
/-- o.m(d), o a list: by values -/
def Mt1 (K : PySem.W.Frag) (C : Nat → Addr) (r : V → List V → Hp → VK → Prop) (g : D → D → Option D) : Prop :=
  ∀ w st H v u x y d Q, Ok K C w st H → Rep (w.env K C) v x → Rep (w.env K C) u y → g x y = some d → Beh K C w st H d Q → r v [u] H Q
theorem ms_count : Mt1 K C (rCountD K) gCount := by
  intro w st H v u x y d Q k rv ru e q
  cases x <;> simp only [gCount, reduceCtorEq] at e
  rename_i ds
  split at e
  · rename_i hz
    cases e
    obtain ⟨h1, h2⟩ := Bool.and_eq_true_iff.mp hz
    obtain ⟨a, vs, rfl, _⟩ := rv.inL
    exact ⟨a, u, y, ds, rfl, rfl, rv.dp k.sub (SeqAt.canLay_of_shaped h1), ru.dp k.sub (SeqAt.canLay_of_shaped h2), h1, h2, q.id k (.int _)⟩
  · cases e
theorem ms_index : Mt1 K C (rIndexD K) gIndex := by
  intro w st H v u x y d Q k rv ru e q
  cases x <;> simp only [gIndex, reduceCtorEq] at e
  rename_i ds
  split at e
  · rename_i hz
    obtain ⟨h1, h2⟩ := Bool.and_eq_true_iff.mp hz
    obtain ⟨j, hj, rfl⟩ := Option.map_eq_some_iff.mp e
    obtain ⟨a, vs, rfl, _⟩ := rv.inL
    rw [List.findIdx?_eq_some_iff_getElem] at hj
    obtain ⟨hlt, p1, p2⟩ := hj
    refine ⟨a, u, y, ds, j, ds[j], rfl, rfl, rv.dp k.sub (SeqAt.canLay_of_shaped h1), ru.dp k.sub (SeqAt.canLay_of_shaped h2), h1, h2, by simp [hlt], p1, fun m z' hm hz' => ?_, q.id k (.int _)⟩
    have hm' : m < ds.length := by omega
    rw [List.getElem?_eq_getElem hm'] at hz'
    cases hz'
    have := p2 m hm
    cases e3 : PyData.eqv ds[m] y with
    | false => rfl
    | true => rw [e3] at this; exact absurd rfl this
  · cases e
variable {o a : Expr} {fo fa : EF} {name : Str} {apos cpos : Pos} {id : String} {r : V → List V → Hp → VK → Prop} {g : D → D → Option D}
def methL (g : D → D → Option D) (fo fa : EF) : EF := fun ρ st => (fo ρ st).bnd fun x st => match x with
  | .list ds => (fa ρ st).bnd fun y st => .ofO (g (.list ds) y) st
  | _ => .bad
theorem de_methL (slot : PySem.Slot "list" name id) (hty : typeOf (.builtin id) = pure (.type "method_descriptor")) (hm : MtR X id r) (hs : Mt1 X.K C r g) (ho : DE X C W fo o) (ha : DE X C W fa a)
    (hbase : attributeBase o name X.env (eval o X.env) = eval o X.env := by rfl)
    (hfew : ((backTo cpos (starEach [a] X.env)).all (fun x => !x.1) && (backToKw cpos (keywordEach [] X.env)).all (fun x => x.1.isSome)
      && decide (([a] : List Expr).length + ([] : List Keyword).length + (if ([] : List Keyword).isEmpty then 0 else 1) < 30)) = true := by rfl)
    (hline : (apos.endLine == cpos.line) = true := by rfl) (hs1 : starEach [a] X.env = (false, eval a X.env) :: starEach [] X.env := by rfl) (hplain : (backTo cpos (starEach [] X.env)).any (·.1) = false := by rfl) :
    DE X C W (methL g fo fa) (.Call (.Attribute o name apos) [a] [] cpos) :=
  PE.imp (pe_bm PySem.F.plainAttrs_list slot hty hm ho (pa_cons ha pa_nil hs1) hbase hfew hline hs1 hplain) fun σ H Q ⟨w, st, O, ρ, rel, h⟩ => by
    refine ⟨w, st, O, ρ, rel, (Out.bnd h).mono fun w1 H1 x st1 g1 k1 h1 v rv => ?_⟩
    cases x with
    | list ds =>
      obtain ⟨b, vs, rfl, hb, z, rb⟩ := rv.inL
      refine ⟨.inl ⟨rfl, vs, SqL.of (k1.sub _ _ hb)⟩, w1, st1, O, ρ, rel.grow g1 k1, (Out.bnd h1).mono fun w2 H2 y st2 g2 k2 h2 u ru => ?_⟩
      revert h2
      cases e : g (.list ds) y with
      | none => exact fun h => h.elim
      | some d => exact fun h2 => hs w2 st2 H2 _ u _ y d Q k2 (rv.le (g2.le X.K C)) ru e fun z w' H' g k r => h2 w' H' g k z r
    | _ => exact h1.elim
end
end BF

/-! BF12: a shared list made; two names at once; short words for the printed derivations; a law's end. -/
namespace BF
open PySem L2

theorem G.u65 {X : Cx} {C : Nat → Addr} {W : WX} {k : Nat} (g : G X C W k) : X.A.units + 65 < cLine := by have := g.room.un; omega
theorem bo_abs : bootBuiltins "abs" = some (.builtin "abs") := by decide +kernel
theorem bo_max : bootBuiltins "max" = some (.builtin "max") := by decide +kernel
theorem bo_min : bootBuiltins "min" = some (.builtin "min") := by decide +kernel
theorem bo_sum : bootBuiltins "sum" = some (.builtin "sum") := by decide +kernel
theorem bo_all : bootBuiltins "all" = some (.builtin "all") := by decide +kernel
theorem bo_sorted : bootBuiltins "sorted" = some (.builtin "sorted") := by decide +kernel
theorem bo_int : bootBuiltins "int" = some (.type "int") := by decide +kernel
theorem bo_str : bootBuiltins "str" = some (.type "str") := by decide +kernel
theorem bo_list : bootBuiltins "list" = some (.type "list") := by decide +kernel
theorem bo_tuple : bootBuiltins "tuple" = some (.type "tuple") := by decide +kernel
theorem bo_bool : bootBuiltins "bool" = some (.type "bool") := by decide +kernel
theorem bo_set : bootBuiltins "set" = some (.type "set") := by decide +kernel
theorem bo_dict : bootBuiltins "dict" = some (.type "dict") := by decide +kernel

theorem get_app {α : Type} {xs ys : List α} {i : Nat} {a : α} (h : xs[i]? = some a) : (xs ++ ys)[i]? = some a := by
  rw [List.getElem?_append_left (List.getElem?_eq_some_iff.mp h).1]; exact h
section
variable {X : Cx} {C : Nat → Addr} {W : WX} {k : Nat}
theorem pgn (j : Nat) {x : Str} {pos : Pos} (hN : X.N.Nodup) (hi : X.N[j]? = some x := by rfl) (hx : Loc X.env.scope x := by first | exact .inl rfl | exact .inr rfl) (hf : X.fn x = true ∨ X.env.scope.names.lookup x = some .local := by first | exact .inl rfl | exact .inr rfl) : PG X (.Name x pos) (gName j) := pg_name hN hi hx hf
theorem pgl (j : Nat) {x : Str} {pos : Pos} {es : List Expr} {js : List Nat} (h1 : PG X (.Name x pos) (gName j)) (h2 : PGs X es (gNames js))
    (hs : (assignEach (.Name x pos :: es) X.env).map (·.2) = assign (.Name x pos) X.env :: (assignEach es X.env).map (·.2) := by rfl) : PGs X (.Name x pos :: es) (gNames (j :: js)) := pgs_cons h1 h2 hs
theorem pg0 : PGs X [] (gNames []) := pgs_nil

/-! ### a, b = x, y -/
def parS (i j : Nat) (f : AF) : SF := fun ρ st => SO.ofE (f ρ st) ρ fun ds st => match ds with
  | [d, e] => .nx ((ρ.set i (.val d)).set j (.val e)) st
  | _ => .bad
theorem ds_par (i j : Nat) {x y : Str} {a b : Expr} {f : AF} {px py pt pos : Pos} {kt k2 pt2} (g : G X C W k) (ha : DA X C W f [a, b]) (hi : X.N[i]? = some x := by rfl) (hj : X.N[j]? = some y := by rfl) (hij : i ≠ j := by decide)
    (hx : X.env.scope.names.lookup x = some .local := by rfl) (hy : X.env.scope.names.lookup y = some .local := by rfl) (hw : swappedStores [.Tuple [.Name x px, .Name y py] kt pt] (.Tuple [a, b] k2 pt2) X.env = pure (some [x, y]) := by rfl)
    (hs : swapsWithSole [.Tuple [.Name x px, .Name y py] kt pt] (.Tuple [a, b] k2 pt2) pos.line X.env = pure false := by rfl) : DS X C W (parS i j f) (.Assign [.Tuple [.Name x px, .Name y py] kt pt] (.Tuple [a, b] k2 pt2) pos) := fun w0 H0 N0 =>
  PS.imp (ps_par g.calm g.nd hi hj hij hx hy ha hw hs) fun Dn σ H ⟨w, st, O, ρ, rel, h⟩ => by
    refine ⟨w, st, O, ρ, rel.rel, (ofE_imp h rel).mono fun w1 H1 ds st1 g1 k1 ⟨r1, h1⟩ vs rv => ?_⟩
    match ds, rv, h1 with
    | [d, e], rv, h1 =>
      obtain ⟨v, u, rfl, r2, r3⟩ := rv.two
      exact ⟨v, u, rfl, h1 w1 _ _ H1 (r1.to ((r1.rel.setVal i r2).setVal j r3) fun l b hb => clr_sub (clr_sub hb))⟩

/-! ### name = [], shared from the start -/
def newOb (i : Nat) (f : AF) : SF := fun ρ st => SO.ofE (f ρ st) ρ fun ds st => .nx (ρ.set i (.val (D.ob st.length))) (st ++ [.lst ds])
theorem Ok.addLst {K : PySem.W.Frag} {w : Wd} {st : Sto} {H : Hp} {p : Addr} {vs : List V} {ds : List D} (k : Ok K C w st H) (hf : w.F p = none) (hi : ¬ w.In p) (hp : H p = some (.lst vs)) (z : ds.length ≤ sizeLine) (r : RepA (w.env K C) vs ds) :
    Ok K C ⟨w.F, w.P ++ [[p]]⟩ (st ++ [.lst ds]) H := by
  have hle : (w.env K C).le ((⟨w.F, w.P ++ [[p]]⟩ : Wd).env K C) := ⟨rfl, rfl, fun _ _ h => h, fun i a h => by
    show (List.map _ (w.P ++ [[p]]))[i]? = some a
    rw [List.map_append]
    exact get_app h⟩
  refine ⟨k.sub, fun a h => ?_, fun fp h => ?_, fun i j fp fq a h1 h2 h3 h4 => ?_, by simp [k.len], fun i fp o h1 h2 => ?_⟩
  · obtain ⟨fp, hm, ha⟩ := h
    rcases List.mem_append.mp hm with hm | hm
    · exact k.dj a ⟨fp, hm, ha⟩
    · have : fp = [p] := by simpa using hm
      subst this
      have : a = p := by simpa using ha
      subst this
      exact hf
  · rcases List.mem_append.mp h with hm | hm
    · exact k.nd fp hm
    · have : fp = [p] := by simpa using hm
      subst this
      simp
  · have side : ∀ {i : Nat} {fp : List Addr}, (w.P ++ [[p]])[i]? = some fp → (i < w.P.length ∧ w.P[i]? = some fp) ∨ (i = w.P.length ∧ fp = [p]) := fun {i fp} h => by
      by_cases hl : i < w.P.length
      · rw [List.getElem?_append_left hl] at h; exact .inl ⟨hl, h⟩
      · rw [List.getElem?_append_right (by omega)] at h
        have h' := List.getElem?_eq_some_iff.mp h
        obtain ⟨q, e⟩ := h'
        simp at q
        refine .inr ⟨by omega, ?_⟩
        have : i - w.P.length = 0 := by omega
        simp [this] at e
        exact e.symm
    rcases side h1 with ⟨l1, e1⟩ | ⟨l1, e1⟩
    · rcases side h2 with ⟨l2, e2⟩ | ⟨l2, e2⟩
      · exact k.ndd i j fp fq a e1 e2 h3 h4
      · subst e2
        have : a = p := by simpa using h4
        subst this
        exact (hi ⟨fp, List.mem_of_getElem? e1, h3⟩).elim
    · subst e1
      have : a = p := by simpa using h3
      subst this
      rcases side h2 with ⟨l2, e2⟩ | ⟨l2, e2⟩
      · exact (hi ⟨fq, List.mem_of_getElem? e2, h4⟩).elim
      · omega
  · by_cases hl : i < w.P.length
    · rw [List.getElem?_append_left hl] at h1
      rw [List.getElem?_append_left (by rw [← k.len]; exact hl)] at h2
      exact (k.obs i fp o h1 h2).le hle fun _ _ _ h => h
    · rw [List.getElem?_append_right (by omega)] at h1
      rw [List.getElem?_append_right (by rw [← k.len]; omega)] at h2
      obtain ⟨q1, e1⟩ := List.getElem?_eq_some_iff.mp h1
      simp at q1
      have e0 : i - w.P.length = 0 := by omega
      have e0' : i - st.length = 0 := by rw [← k.len]; exact e0
      simp [e0] at e1
      rw [e0'] at h2
      simp at h2
      subst e1 h2
      exact ⟨p, rfl, vs, hp, z, r.le hle⟩
theorem Grow.addP {w0 w : Wd} {H0 H : Hp} {p : Addr} (g : Grow w0 H0 w H) (h0 : H0 p = none) : Grow w0 H0 ⟨w.F, w.P ++ [[p]]⟩ H where
  ext := g.ext
  newF := g.newF
  newP := fun a h => by
    obtain ⟨fp, hm, ha⟩ := h
    rcases List.mem_append.mp hm with hm | hm
    · exact g.newP a ⟨fp, hm, ha⟩
    · have : fp = [p] := by simpa using hm
      subst this
      have : a = p := by simpa using ha
      subst this
      exact .inr h0
  keep := g.keep
  mono := g.mono
  pre := fun i a h => by
    show (List.map _ (w.P ++ [[p]]))[i]? = some a
    rw [List.map_append]
    exact get_app (g.pre i a h)
theorem newOb_imp {K : PySem.W.Frag} {w0 : Wd} {H0 : Hp} {N0 : Nv} {i : Nat} {la : AF} {Dn : Ends} {σ : St} {H : Hp} (h : tS K C W w0 H0 N0 (newOb i la) Dn σ H) : tAsg (tL K C W la) (gName i) Dn σ H := by
  obtain ⟨w, st, O, ρ, rel, h⟩ := h
  refine ⟨w, st, O, ρ, rel.rel, ?_⟩
  unfold newOb at h
  revert h
  cases la ρ st with
  | ok ds st1 =>
    intro h w1 H1 g1 k1 p vs h0 hf hn hp z rv
    have k2 := k1.addLst hf hn hp z rv
    have g2 := g1.addP h0
    have r2 := rel.growE g2 k2
    refine h _ _ _ H1 (r2.to (r2.rel.setVal i (.ob ?_)) fun j a => clr_sub)
    show (List.map _ (w1.P ++ [[p]]))[st1.length]? = some p
    rw [List.map_append, List.getElem?_append_right (by rw [List.length_map, k1.len]; exact Nat.le_refl _), List.length_map, k1.len]
    simp
  | err c st1 => exact fun h w1 H1 g1 k1 => h w1 O σ H1 (rel.growE g1 k1)
  | bad => exact fun h => h
theorem ds_newOb (i : Nat) {x : Str} {e : Expr} {la : AF} {pos pos' : Pos} (g : G X C W k) (he : DL X C W la e) (hi : X.N[i]? = some x := by rfl) (hx : Loc X.env.scope x := by first | exact .inl rfl | exact .inr rfl) (hs : swapsWith e (some (.Name x pos')) pos.line X.env = pure false := by rfl)
    (hf : X.fn x = true ∨ X.env.scope.names.lookup x = some .local := by first | exact .inl rfl | exact .inr rfl) : DS X C W (newOb i la) (.Assign [.Name x pos'] e pos) :=
  fun w0 H0 N0 => PS.imp (ps_set g.nd hi hx he hs hf) fun _ _ _ h => newOb_imp h
end

/-! ### the end of a law -/
theorem sp_end {K : PySem.W.Frag} {C : Nat → Addr} {fn : Fn} {H : Hp} {a : Addr} {ns : List Int} (hS : SqL K H a (ns.map V.int)) (h : ∃ st, fn [D.scr ns] [] = .ok (.bool true) st) : FnD K C 1 fn [.ref a] H (fun v _ => v = .bl true) fun _ _ _ => False := by
  obtain ⟨st, h⟩ := h
  refine ⟨⟨H, []⟩, [], [D.scr ns], ⟨fun _ _ h => h, fun a h => ?_, fun fp h => ?_, fun i j fp fq a h => ?_, rfl, fun i fp o h => ?_⟩, .cons (.scr hS) .nil, rfl, ?_⟩
  · obtain ⟨fp, hm, _⟩ := h; simp at hm
  · simp at h
  · simp at h
  · simp at h
  · rw [h]
    exact fun v w' H' _ _ r => r.inB
end BF

/-! BF13: what the head tells. -/
namespace BF
open PySem L2

def exNames : List Str := ["BadHeard", "BadNumber", "BadBars", "BadChain", "TooMany", "BadText", "BeatError", "Player", "Machine"]
def exAd (K : PySem.W.Frag) (c : Nat) : Addr := He.ga K (exNames.getD c "BeatError")
def oneB (K : PySem.W.Frag) (D : Addr) : Bool :=
  decide (PySem.W.findIn K (.ref D) "__getattribute__" = some (some (.builtin "BaseException.__getattribute__"))) && (decide (PySem.W.findIn K (.ref D) "__getattr__" = some none) && (decide (PySem.W.subIn K (.ref D) (.type "BaseException") = some true) &&
    (PySem.W.hasDictIn K D && (decide (PySem.W.findIn K (.ref D) "__class__" = some (some (.builtin "object.__class__"))) && (decide (PySem.W.specialIn K (.builtin "object.__class__") "__get__" = some (some (.builtin "getset_descriptor.__get__"))) &&
      (decide (PySem.W.takesIn K (.builtin "object.__class__") = some true) && decide (PySem.W.mroIn K D (.type "object") = some true)))))))
theorem oneB_ok {K : PySem.W.Frag} {D : Addr} (h : oneB K D = true) : ExcC K D := by
  unfold oneB at h
  simp only [Bool.and_eq_true, decide_eq_true_eq] at h
  exact ⟨h.1, h.2.1, h.2.2.1, h.2.2.2.1, h.2.2.2.2.1, h.2.2.2.2.2.1, h.2.2.2.2.2.2.1, h.2.2.2.2.2.2.2⟩
def exB (m : Nat) (K : PySem.W.Frag) : Bool := (List.range m).all fun c => oneB K (exAd K c) && (decide (PySem.W.kitOne K (.ref (exAd K c)) (.type "ValueError") = some true) &&
  (decide (PySem.W.exmOne K (.ref (exAd K c)) (.ref (exAd K 6)) = some true) && (List.range m).all fun c' => decide (PySem.W.kitOne K (.ref (exAd K c)) (.ref (exAd K c')) = some (c == c'))))
theorem exB_ok {m : Nat} {K : PySem.W.Frag} (h : exB m K = true) : ExK K (exAd K) m ∧ ∀ c, c < m → PySem.W.exmOne K (.ref (exAd K c)) (.ref (exAd K 6)) = some true := by
  unfold exB at h
  simp only [List.all_eq_true, List.mem_range, Bool.and_eq_true, decide_eq_true_eq] at h
  exact ⟨⟨fun c hc => oneB_ok (h c hc).1, fun c c' hc hc' => (h c hc).2.2.2 c' hc', fun c hc => (h c hc).2.1⟩, fun c hc => (h c hc).2.2.1⟩
section
variable {K : PySem.W.Frag} {h : Heap} {mg : Str → Option Value}
theorem exF_ok (X : K.In h) (G : h.Ns mainGlobals mg) (c : Nat) {x : Str} (hx : exNames.getD c "BeatError" = x) (h1 : (He.Fa.exc x).ok K = true) (h2 : (He.Fa.glo x).ok K = true) : ExF K mg (exAd K) x c := by
  obtain ⟨a, b, d, e⟩ := He.exc_ok h1
  have q : exAd K c = He.ga K x := by unfold exAd; rw [hx]
  exact ⟨by rw [q]; exact a, by rw [q]; exact He.glo_ok X G h2, by rw [q]; exact b, by rw [q]; exact d, by rw [q]; exact e⟩
end
end BF

/-! BF14: the law's own def. -/
namespace BF
open PySem L2
section
variable {P : Program} {wo : World} {K : PySem.W.Frag} {mg : Str → Option Value} {base : Heap} {C : Nat → Addr} {x qual : Str} {st : Stmt} {f : Addr} {fd : FuncData} {N ps : List Str} {k : Nat} {body : SF}
theorem fn_mk (F : FunD K x qual (defArgs st) (defBody st) (defScope st) [] [] f fd) (S : FnScope N ps (defScope st))
    (hbody : ∀ (cdv : Value) (A : Around) (outer : List Env) (s : Shared) (H : Hp) (E : XK), G (cxOf (L2.CX P wo) P wo K mg base N qual (defScope st) f cdv A outer s H E) C (fun cls d _ H => E cls d H) k →
      DSs (cxOf (L2.CX P wo) P wo K mg base N qual (defScope st) f cdv A outer s H E) C (fun cls d _ H => E cls d H) body (defBody st)) : FnOk P wo K mg base (L2.CX P wo) (k + 1) f fd ps (FnD K C ps.length (fnB N.length body)) := by
  refine F.ok S (fun vs H Q E h => ?_) (fun cdv A outer s H vs Q E hr h => ?_)
  · obtain ⟨w, st, ds, k, r, hl, _⟩ := h
    rw [r.length, hl]
  · obtain ⟨w, st, ds, k1, r, hl, h⟩ := h
    refine ⟨_, hbody cdv A outer s H E ⟨rfl, S.nd, hr, takes_of rfl rfl rfl rfl, PassesOwn.leaving⟩ w H (w.env K C), body_in k1 r h⟩
end
theorem walk_us {l : PySem.W.OpenLaw} {k : Nat} {q : Program} {loose : List Str} {XP : (Str → Option Value) → Heap → Prop} {fal : List He.Fa} {fnl : List He.DefD} {ex : PySem.W.Frag → Bool} {d : DefRec} {x nm : Str} {fn : Fn}
    (hn : l.most = some 63) (hdf : d.params.defaults = []) (hd : d.name = nm) (hr : Room k callerA)
    (F : ∀ (w : World) (K : PySem.W.Frag) (mg : Str → Option Value) (h : Heap), K.In h → h.Ns mainGlobals mg → He.SaysD fal fnl K → ex K = true →
      ∃ (fa : Addr) (fd : FuncData), mg nm = some (.ref fa) ∧ (∀ (s : Shared) (u : Value), BindsTo s fd ⟨[u], []⟩ [(x, u)]) ∧ ∀ base : Heap, FnOk l.prog w K mg base (L2.CX l.prog w) k fa fd [x] (FnD K (exAd K) 1 fn))
    (ht : ∀ ns : List Int, ns.length ≤ 63 → ∃ st, fn [D.scr ns] [] = .ok (.bool true) st) :
    PySem.W.WalkO q loose XP (fun w h => ∃ K : PySem.W.Frag, K.In h ∧ He.SaysX fal fnl [] [] ex w h K) l.row.toRowW d [] (fun f vs => PySem.call f vs) := by
  refine Att.attach_call hn hdf fun w s₀ s₁ mg mb fa o pm cd doc a vs ns G Y ho hd' hcd hmg hobj hints hlen hg => ?_
  obtain ⟨K, KX, c⟩ := Y
  obtain ⟨fa', fd, hm, hb, hF⟩ := F w K mg _ KX G.T.g c.t.d c.more
  rw [hd, hm] at hmg
  cases hmg
  refine law_call KX G.T.g G.T.b G.T.builtins G.T.nolimit hg hobj hints (Nat.le_trans hlen (by decide)) hr (fun base _ _ => hF base) hb (fun H hO hS => sp_end hS (ht ns hlen)) fun H e s' z => ?_
  obtain ⟨_, _, _, _, _, _, _, _, _, _, _, _, z⟩ := z
  exact z
end BF

/-! BF15: plain: what the laws' common defs tell. -/
namespace BF
open PySem L2
/-! ### slots, ends -/
@[simp] theorem eVar_val {i : Nat} {ρ : Slots} {st : Sto} {d : D} (h : ρ[i]? = some (.val d)) : eVar i ρ st = .ok d st := by unfold eVar; rw [h]
@[simp] theorem eC_ok (d : D) (ρ : Slots) (st : Sto) : eC d ρ st = .ok d st := rfl
/-- the town: n zeros drawn -/
abbrev tw (n : Nat) : Ob := .lst (List.replicate n (.int 0))
theorem seq_nx {f g : SF} {ρ ρ' : Slots} {st st' : Sto} (h : f ρ st = .nx ρ' st') : seqS f g ρ st = g ρ' st' := by unfold seqS; rw [h]; rfl
theorem seqE {f g : SF} {ρ ρ' : Slots} {st st' : Sto} {o : SO} (h : f ρ st = .nx ρ' st') (h2 : g ρ' st' = o) : seqS f g ρ st = o := by rw [seq_nx h, h2]
theorem fnB_rt {n : Nat} {body : SF} {ds : List D} {st st' : Sto} {d : D} (h : body (ds.map .val ++ List.replicate (n - ds.length) .emp) st = .rt d st') : fnB n body ds st = .ok d st' := by unfold fnB; rw [h]
theorem fnB_err {n : Nat} {body : SF} {ds : List D} {st st' : Sto} {c : Nat} {ρ : Slots} (h : body (ds.map .val ++ List.replicate (n - ds.length) .emp) st = .err c ρ st') : fnB n body ds st = .err c st' := by unfold fnB; rw [h]
theorem fnB_nx {n : Nat} {body : SF} {ds : List D} {st st' : Sto} {ρ : Slots} (h : body (ds.map .val ++ List.replicate (n - ds.length) .emp) st = .nx ρ st') : fnB n body ds st = .ok .none st' := by unfold fnB; rw [h]
theorem atI_nat {α : Type} {xs : List α} {i : Int} (h0 : 0 ≤ i) (h : i < xs.length) : atI xs i = xs[i.toNat]? := by
  unfold atI ixN
  rw [if_pos h0, if_pos h]; rfl
theorem atI_neg {α : Type} {xs : List α} {i : Int} (h0 : i < 0) (h : -(xs.length : Int) ≤ i) : atI xs i = xs[(i + xs.length).toNat]? := by
  unfold atI ixN
  rw [if_neg (by omega), if_pos h]; rfl
namespace Q
def b_is_whole : SF := (retS (tv (andT (bV (lift1 (isiD "int") (eVar 0))) (andT (notT (bV (lift1 (isiD "bool") (eVar 0)))) (chT gLe gLe (eVar 1) (eVar 0) (eVar 2))))))
def is_whole : Fn := fnB 3 b_is_whole
def b_cell : SF := (seqS (ifS (truF (eVar 0)) (retS (lift2 gIdx (eVar 0) (lift2 gMod (eVar 1) (callG gLen (aCons (eVar 0) aNil))))) skipS)
    (retS (eC (.int 0))))
def cell : Fn := fnB 2 b_cell
def b_mix : SF := (seqS (asgS (.nm 2) (lift2 gMod (lift2 gAdd (callF 2 cell (aCons (eVar 0) (aCons (eVar 1) aNil))) (lift2 gMul (eC (.int 104729)) (lift2 gAdd (eVar 1) (eC (.int 1))))) (eC (.int 4294967291))))
    (seqS (asgS (.nm 2) (lift2 gMod (lift2 gPow (eVar 2) (eC (.int 5))) (eC (.int 4294967279))))
    (retS (lift2 gMod (lift2 gAdd (lift2 gMul (lift2 gFdiv (eVar 2) (eC (.int 64))) (eC (.int 69621))) (eVar 2)) (eC (.int 4294967231))))))
def mix : Fn := fnB 3 b_mix
def b_draw : SF := (seqS (appOb 1 (eC (.int 0)))
    (retS (lift2 gMod (lift2 gFdiv (callF 2 mix (aCons (eVar 0) (aCons (lenOb 1) aNil))) (eC (.int 8))) (eVar 2))))
def draw : Fn := fnB 3 b_draw
def b_pick : SF := (retS (lift2 gIdx (eVar 2) (callF 3 draw (aCons (eVar 0) (aCons (eVar 1) (aCons (callG gLen (aCons (eVar 2) aNil)) aNil))))))
def pick : Fn := fnB 3 b_pick

/-! ### what they tell -/
def cellV (ns : List Int) (k : Nat) : Int := if ns = [] then 0 else ns.getD (k % ns.length) 0
def mixV (ns : List Int) (k : Nat) : Int :=
  let a := (cellV ns k + 104729 * ((k : Int) + 1)) % 4294967291
  let b := a ^ 5 % 4294967279
  (b / 64 * 69621 + b) % 4294967231
/-- the n'th draw -/
def drawV (ns : List Int) (n : Nat) (m : Int) : Int := mixV ns (n + 1) / 8 % m
theorem drawV_lt {ns : List Int} {n : Nat} {m : Int} (h : 0 < m) : drawV ns n m < m := Int.emod_lt_of_pos _ h
theorem drawV_nonneg {ns : List Int} {n : Nat} {m : Int} (h : 0 < m) : 0 ≤ drawV ns n m := Int.emod_nonneg _ (by omega)
theorem cell_eq {ns : List Int} {k : Nat} {st : Sto} : cell [D.scr ns, .int k] st = .ok (.int (cellV ns k)) st := by
  cases ns with
  | nil => rfl
  | cons n ns =>
    have e : ((k : Int) % ((n :: ns).length : Int)) = ((k % (n :: ns).length : Nat) : Int) := by omega
    have hl : k % (n :: ns).length < (n :: ns).length := Nat.mod_lt _ (by simp)
    have h1 : atI ((n :: ns).map PyData.int) ((k : Int) % ((n :: ns).length : Int)) = some (.int ((n :: ns).getD (k % (n :: ns).length) 0)) := by
      rw [e, atI_nat (by omega) (by rw [List.length_map]; omega), Int.toNat_natCast, List.getElem?_map, List.getElem?_eq_getElem hl, List.getD_eq_getElem?_getD, List.getElem?_eq_getElem hl]
      rfl
    generalize n :: ns = l at *
    have hp : 0 < l.length := by omega
    have hz : l ≠ [] := by intro q; subst q; simp at hp
    simp [cell, b_cell, fnB, seqS, SO.thn, ifS, truF, eVar, gTru, retS, lift2, callG, aCons, aNil, gLen, gMod, gIdx, h1, hp, hz, cellV]
theorem mix_eq {ns : List Int} {k : Nat} {st : Sto} : mix [D.scr ns, .int k] st = .ok (.int (mixV ns k)) st := by
  have h := @cell_eq ns k st
  have e0 : 0 ≤ (cellV ns k + 104729 * ((k : Int) + 1)) % 4294967291 := Int.emod_nonneg _ (by decide)
  have e1 : (cellV ns k + 104729 * ((k : Int) + 1)) % 4294967291 < 4294967291 := Int.emod_lt_of_pos _ (by decide)
  generalize hA : (cellV ns k + 104729 * ((k : Int) + 1)) % 4294967291 = A at e0 e1
  have hB0 : 0 ≤ A ^ 5 % 4294967279 := Int.emod_nonneg _ (by decide)
  have hB1 : A ^ 5 % 4294967279 < 4294967279 := Int.emod_lt_of_pos _ (by decide)
  generalize hB : A ^ 5 % 4294967279 = B at hB0 hB1
  have hA2 : A.natAbs < 2 ^ 64 := by omega
  have g1 : gMul (.int 104729) (.int ((k : Int) + 1)) = some (.int (104729 * ((k : Int) + 1))) := rfl
  have g2 : gMul (.int (B / 64)) (.int 69621) = some (.int (B / 64 * 69621)) := by unfold gMul; simp
  have g3 : gPow (.int A) (.int 5) = some (.int (A ^ 5)) := by show (if (0:Int) ≤ 5 ∧ (5:Int) ≤ 1000000 ∧ A.natAbs < 2 ^ 64 then some (PyData.int (A ^ (5:Int).toNat)) else none) = _; rw [if_pos ⟨by decide, by decide, hA2⟩]; rfl
  simp [mix, b_mix, fnB, seqS, SO.thn, ifS, eVar, retS, lift2, callF, aCons, aNil, gMod, gAdd, gFdiv, asgS, Tgt.set, h, g1, hA, g3, hB, g2, mixV]
theorem draw_eq {ns : List Int} {n : Nat} {m : Int} {st : Sto} (hm : 0 < m) (hn : n < 16777216) : draw [D.scr ns, D.ob 0, .int m] (tw n :: st) = .ok (.int (drawV ns n m)) (tw (n + 1) :: st) := by
  have h := @mix_eq ns (n + 1) (tw (n + 1) :: st)
  have e : List.replicate n (PyData.int 0) ++ [.int 0] = List.replicate (n + 1) (.int 0) := by rw [List.replicate_succ']
  simp at h
  simp [draw, b_draw, fnB, seqS, SO.thn, eVar, retS, lift2, callF, aCons, aNil, gMod, gFdiv, appOb, slotOb, obIx, lenOb, hn, e, h, hm, drawV]
theorem pick_eq {ns : List Int} {n : Nat} {ds : List D} {st : Sto} (hm : ds ≠ []) (hn : n < 16777216) : ∃ d ∈ ds, pick [D.scr ns, D.ob 0, .list ds] (tw n :: st) = .ok d (tw (n + 1) :: st) := by
  have hp : 0 < (ds.length : Int) := by have := List.length_pos_iff.mpr hm; omega
  have h := @draw_eq ns n ds.length st hp hn
  have h0 := @drawV_nonneg ns n ds.length hp
  have h1 := @drawV_lt ns n ds.length hp
  generalize drawV ns n ds.length = v at h h0 h1
  have h2 : v.toNat < ds.length := by omega
  refine ⟨ds[v.toNat], List.getElem_mem _, ?_⟩
  have h3 : atI ds v = some ds[v.toNat] := by rw [atI_nat h0 h1, List.getElem?_eq_getElem h2]
  simp [pick, b_pick, fnB, eVar, retS, lift2, callF, callG, aCons, aNil, gLen, gIdx, h, h3]
end Q
end BF

/-! BF16: sorted(set(x)). -/
namespace BF
open PySem L2 PySem.Spec PyProof.Rows

/-! ### set(xs), xs a list of ints -/
section
variable {P : Program} {w : World} {A : Around} {E : Value → Shared → Prop} {s : Shared}
abbrev em0 (w : World) : Obj := { cls := .type "set", dict := none, data := .set #[] 0 (.fresh 0 0 (!w.params.followText "set-order")) }
abbrev hp1 (w : World) (s : Shared) : Heap := s.heap.push (em0 w)
theorem call_setL {l : Addr} {items : Array Value} (ns : List Int) {Q : Value → Shared → Prop} (hn : A.handled = none) (hl : s.heap.IsList l items) (hit : IntsAre items.toList ns) (hb : ns.length + 1 < scanBound)
    (h : ∀ (h' : Heap) (tk c : Nat), SetR w h' s.heap.objs.size (fun j => decide (j ∈ ns)) c → c ≤ ns.length → (∀ b o, s.heap.get? b = some o → h'.get? b = some o) → Q (.ref s.heap.objs.size) { s with heap := h', toks := tk }) :
    wpAny (model P w) A (call (.type "set") [.ref l]) Q E s := by
  have hz : items.size = ns.length := by have q := IntsAre.length hit; rwa [Array.length_toList] at q
  obtain ⟨c, tl, mro⟩ := F.called_set.mro
  have f1 := F.called_set.made; have f2 := F.called_set.sub; have f3 := F.called_set.notType; have f4 := F.called_set.canCreate; have f5 := F.typeCall_set_1 (.ref l)
  refine wpAny_call (codeAny_of_tree ?_); show wpAny _ _ (callAny (.type "set") _) _ _ _
  refine wpAny_pure ⟨Code.quiet_builtin _ (by decide +kernel), codeAny_builtin F.entry_type_call ?_⟩; rw [Around.under_plain (weight_type_call_type "set" [.ref l] []) rfl]
  repeat (any_goals (first | assumption | wp_step))
  refine codeAny_mono (code_set_led1 (.ref l) (E := E) (Q₁ := fun o s1 => o = .ref s.heap.objs.size ∧ s1 = { s with heap := hp1 w s }) ⟨rfl, rfl⟩) fun r s1 hr => ?_
  cases r with
  | error e => exact hr
  | ok fl =>
    cases fl with
    | ret o =>
      obtain ⟨rfl, rfl⟩ := hr
      have g0 : (hp1 w s).get? s.heap.objs.size = some (em0 w) := Heap.get?_push_size _ rfl
      have ty : Shared.TypeIs { s with heap := hp1 w s } (.ref s.heap.objs.size) "set" := ⟨_, g0, rfl⟩
      have i1 := F.called_set.init.lookup; have i2 := F.called_set.init.bind (.ref s.heap.objs.size)
      repeat (any_goals (first | assumption | wp_step))
      refine codeAny_mono (codeAny_call_builtin (R := wants (fun r s2 => r = .none ∧ ∃ h' tk c, s2 = { s with heap := h', toks := tk } ∧ SetR w h' s.heap.objs.size (fun j => decide (j ∈ ns)) c ∧ c ≤ ns.length ∧ (∀ b o, s.heap.get? b = some o → h'.get? b = some o)) E)
        F.called_set.init.plain F.entry_set_init (check_set_init_1 ty ?_)) fun r2 s2 hr2 => ?_
      · obtain ⟨⟨oc, od, dt, sl⟩, ol, hc, nl, hd⟩ := hl
        simp only at hc hd; subst hc hd
        have ol1 : (hp1 w s).get? l = some { cls := .type "list", dict := od, data := .seq items nl, slots := sl } := Heap.get?_push_of_some _ ol
        have j1 := F.sub_list_set; have j2 := F.sub_list_frozenset; have j3 : (Value.type "list" == Value.type "dict") = false := by decide
        have l1 : (hp1 w s).IsList l items := ⟨_, ol1, rfl, nl, rfl⟩
        unfold Builtin.«set.__init__» noKeywords Builtin.Frozenset.updateFrom
        generalize hPI : pyIter = PI
        wp_walk
        subst hPI
        refine wpAny_pyIter_list l1 ?_; refine wpAny_bind (wpAny_runValue ?_)
        have lt := Heap.lt_size ol
        have z1 : (hp1 w s).objs.size = s.heap.objs.size + 1 := Heap.size_push ..
        have n1 : l ≠ (hp1 w s).objs.size := by rw [z1]; exact Nat.ne_of_lt (Nat.lt_succ_of_lt lt)
        have n2 : s.heap.objs.size ∉ [(hp1 w s).objs.size, l] := by
          rw [z1]; intro q
          rcases List.mem_cons.mp q with q | q
          · exact Nat.ne_of_lt (Nat.lt_succ_self _) q
          · exact Nat.ne_of_gt lt (List.mem_singleton.mp q)
        have hv : ∀ (i : Nat) (v : Value), items[i]? = some v → ∃ k t, ns[i]? = some k ∧ v = .int k t := fun i v e => by
          have hi : i < ns.length := by rw [← hz]; exact (Array.getElem?_eq_some_iff.mp e).1
          obtain ⟨t, q⟩ := IntsAre.int_at hit i v (by rw [Array.getElem?_toList]; exact e)
          exact ⟨ns[i], t, List.getElem?_eq_getElem hi, by rw [q, List.getD_eq_getElem?_getD, List.getElem?_eq_getElem hi] <;> rfl⟩
        refine set_update_ints ((Walks.list (by simp [hn]) _ l n1 items).toS) s.heap.objs.size n2 ns hz hb hv (items.size - 0) 0 _ (by omega) (Nat.zero_le _) ⟨⟨_, Heap.get?_push_size _ rfl, rfl, rfl⟩, (l1.push _)⟩ ?ha ?hb2
        case ha => exact ⟨0, Nat.le_refl 0, setR_new_at (Heap.get?_push_of_some _ g0)⟩
        case hb2 =>
          intro s3 c3 m hc3 hS3
          obtain ⟨h3, g3, d3, t3, o3⟩ := s3
          have e1 : g3 = s.gens := m.gens
          have e2 : d3 = s.drawn := m.drawn
          have e3 : o3 = s.os := m.os
          subst e1 e2 e3
          show wpAny _ _ _ _ _ _
          refine wpAny_pure ?_
          show wpAny _ _ (ret Value.none) _ _ _
          rw [hz] at hc3
          refine wpAny_pure ⟨rfl, h3, t3, c3, rfl, hS3, hc3, fun b o e => m.heap b o ?_ (Heap.get?_push_of_some _ (Heap.get?_push_of_some _ e))⟩
          have lb := Heap.lt_size e
          intro q
          rcases List.mem_cons.mp q with q | q
          · exact Nat.ne_of_lt lb q
          · exact Nat.ne_of_lt (Nat.lt_succ_of_lt lb) ((List.mem_singleton.mp q).trans z1)
      · cases r2 with
        | error e => exact hr2
        | ok f2 =>
          cases f2 with
          | ret r =>
            obtain ⟨rfl, h3, t3, c3, rfl, hS3, hc3, kk⟩ := hr2
            repeat (any_goals (first | assumption | wp_step))
            exact h _ _ _ hS3 hc3 kk
          | _ => exact hr2.elim
    | _ => exact hr.elim
end
section
variable {X : Cx}
def rSetI (K : PySem.W.Frag) (w : World) : List V → Hp → VK → Prop := fun xs H Q => ∃ (l : Addr) (ns : List Int), xs = [V.ref l] ∧ (SqL K H l (ns.map V.int) ∨ SqT K H l (ns.map V.int)) ∧ ns.length ≤ 60 ∧
  ∀ a n, n ≤ ns.length → H a = none → Q (.ref a) (upd H a (SetO w a (fun j => decide (j ∈ ns)) n))
theorem cr_setI (hc : X.calm = true) : CallR X (.type "set") (rSetI X.K X.w) := by
  intro pins s σ H xs us Q I r h
  obtain ⟨l, ns, rfl, hl, hf, q⟩ := h
  rw [Vals.ref1 r]
  have fresh : H s.heap.objs.size = none := I.hok.fresh (Nat.le_refl _)
  rcases hl with hl | hl
  · obtain ⟨its, rv, pl, hz⟩ := I.list hl
    exact call_setL ns (I.ok.hd hc) pl.isList (by simpa using ints_of_vals rv) (by unfold scanBound; omega) fun h' tk c R hcn k =>
      ⟨.ref s.heap.objs.size, upd H s.heap.objs.size (SetO X.w s.heap.objs.size (fun j => decide (j ∈ ns)) c), I.laid (t' := tk) k (Nat.le_refl _) (setO_new R), rfl, q _ c hcn fresh⟩
  · obtain ⟨its, rv, pl, hz⟩ := I.tuple hl
    exact call_set_tupI ns (I.ok.hd hc) (show s.heap.IsTuple l its.toArray from pl) (by simpa using ints_of_vals rv) (by unfold scanBound; omega) fun h' tk c R hcn k =>
      ⟨.ref s.heap.objs.size, upd H s.heap.objs.size (SetO X.w s.heap.objs.size (fun j => decide (j ∈ ns)) c), I.laid (t' := tk) k (Nat.le_refl _) (setO_new R), rfl, q _ c hcn fresh⟩
end
end BF

/-! BF17: sorted(set(x)), the order of the members; the rule. -/
namespace BF
open PySem L2

/-! ### members in order, each once -/
def insU {α : Type} [DecidableEq α] (lt : α → α → Bool) (x : α) : List α → List α
  | [] => [x]
  | y :: r => if lt x y = true then x :: y :: r else if x = y then y :: r else y :: insU lt x r
def setU {α : Type} [DecidableEq α] (lt : α → α → Bool) (xs : List α) : List α := xs.foldr (insU lt) []
structure STO {α : Type} (lt : α → α → Bool) : Prop where
  irr : ∀ a, lt a a = false
  tr : ∀ a b c, lt a b = true → lt b c = true → lt a c = true
  tri : ∀ a b, lt a b = true ∨ a = b ∨ lt b a = true
section
variable {α : Type} [DecidableEq α] {lt : α → α → Bool}
theorem mem_insU {x z : α} : ∀ {l : List α}, z ∈ insU lt x l ↔ z = x ∨ z ∈ l
  | [] => by simp [insU]
  | y :: r => by
    have ih := @mem_insU x z r
    unfold insU
    split
    · simp
    · split
      · rename_i h; subst h; simp
      · simp [ih, or_left_comm]
theorem mem_setU {z : α} : ∀ {l : List α}, z ∈ setU lt l ↔ z ∈ l
  | [] => by simp [setU]
  | x :: r => by
    have ih := @mem_setU z r
    show z ∈ insU lt x (setU lt r) ↔ _
    rw [mem_insU, ih]; simp
theorem insU_up (o : STO lt) {x : α} : ∀ {l : List α}, l.Pairwise (fun a b => lt a b = true) → (insU lt x l).Pairwise (fun a b => lt a b = true)
  | [], _ => by simp [insU]
  | y :: r, h => by
    have ih := insU_up o (x := x) (List.pairwise_cons.mp h).2
    unfold insU
    split
    · rename_i h1
      refine List.pairwise_cons.mpr ⟨fun z hz => ?_, h⟩
      rcases List.mem_cons.mp hz with rfl | hz
      · exact h1
      · exact o.tr _ _ _ h1 ((List.pairwise_cons.mp h).1 z hz)
    · rename_i h1
      split
      · exact h
      · rename_i h2
        have h3 : lt y x = true := by
          rcases o.tri x y with q | q | q
          · exact absurd q h1
          · exact absurd q h2
          · exact q
        refine List.pairwise_cons.mpr ⟨fun z hz => ?_, ih⟩
        rcases mem_insU.mp hz with rfl | hz
        · exact h3
        · exact (List.pairwise_cons.mp h).1 z hz
theorem setU_up (o : STO lt) : ∀ {l : List α}, (setU lt l).Pairwise (fun a b => lt a b = true)
  | [] => .nil
  | x :: r => insU_up o (setU_up o)
theorem up_uniq (o : STO lt) : ∀ {l m : List α}, l.Pairwise (fun a b => lt a b = true) → m.Pairwise (fun a b => lt a b = true) → (∀ z, z ∈ l ↔ z ∈ m) → l = m
  | [], [], _, _, _ => rfl
  | [], b :: m, _, _, h => by have := (h b).mpr (by simp); simp at this
  | a :: l, [], _, _, h => by have := (h a).mp (by simp); simp at this
  | a :: l, b :: m, h1, h2, h => by
    obtain ⟨a1, a2⟩ := List.pairwise_cons.mp h1
    obtain ⟨b1, b2⟩ := List.pairwise_cons.mp h2
    have e : a = b := by
      rcases List.mem_cons.mp ((h a).mp (by simp)) with q | q
      · exact q
      · rcases List.mem_cons.mp ((h b).mpr (by simp)) with q2 | q2
        · exact q2.symm
        · have := o.tr _ _ _ (a1 b q2) (b1 a q)
          rw [o.irr] at this; cases this
    subst e
    have ne : ∀ z, z ∈ l → z ≠ a := fun z hz e => by have := a1 z hz; rw [e, o.irr] at this; cases this
    have ne2 : ∀ z, z ∈ m → z ≠ a := fun z hz e => by have := b1 z hz; rw [e, o.irr] at this; cases this
    rw [up_uniq o a2 b2 fun z => ⟨fun hz => (List.mem_cons.mp ((h z).mp (List.mem_cons_of_mem _ hz))).resolve_left (ne z hz), fun hz => (List.mem_cons.mp ((h z).mpr (List.mem_cons_of_mem _ hz))).resolve_left (ne2 z hz)⟩]
theorem setU_of (o : STO lt) {l m : List α} (h : m.Pairwise (fun a b => lt a b = true)) (hm : ∀ z, z ∈ m ↔ z ∈ l) : m = setU lt l :=
  up_uniq o h (setU_up o) fun z => by rw [hm, mem_setU]
theorem insU_len {x : α} : ∀ {l : List α}, (insU lt x l).length ≤ l.length + 1
  | [] => by simp [insU]
  | y :: r => by
    have ih := @insU_len x r
    unfold insU
    split
    · simp
    · split
      · simp
      · simp; exact ih
theorem setU_len : ∀ {l : List α}, (setU lt l).length ≤ l.length
  | [] => by simp [setU]
  | x :: r => by
    have ih := @setU_len r
    have := @insU_len _ _ lt x (setU lt r)
    show (insU lt x (setU lt r)).length ≤ r.length + 1
    omega
end
def ltI (a b : Int) : Bool := decide (a < b)
theorem sto_int : STO ltI := ⟨fun a => by simp [ltI], fun a b c => by simp only [ltI, decide_eq_true_eq]; omega, fun a b => by simp only [ltI, decide_eq_true_eq]; omega⟩
theorem lex_irr : ∀ a : List Int, HT.lexLt a a = false
  | [] => rfl
  | x :: a => by rw [HT.lexLt_cons, if_pos rfl]; exact lex_irr a
theorem lex_tri : ∀ a b : List Int, HT.lexLt a b = true ∨ a = b ∨ HT.lexLt b a = true
  | [], [] => .inr (.inl rfl)
  | [], _ :: _ => .inl rfl
  | _ :: _, [] => .inr (.inr rfl)
  | x :: a, y :: b => by
    rw [HT.lexLt_cons, HT.lexLt_cons]
    by_cases h : x = y
    · subst h
      rw [if_pos rfl, if_pos rfl]
      rcases lex_tri a b with q | q | q
      · exact .inl q
      · exact .inr (.inl (by rw [q]))
      · exact .inr (.inr q)
    · rw [if_neg h, if_neg (Ne.symm h)]
      by_cases h2 : x < y
      · exact .inl (by simpa using h2)
      · exact .inr (.inr (by simp; omega))
theorem lex_tr : ∀ a b c : List Int, HT.lexLt a b = true → HT.lexLt b c = true → HT.lexLt a c = true
  | [], [], _, h, _ => by cases h
  | [], _ :: _, [], _, h => by cases h
  | [], _ :: _, _ :: _, _, _ => rfl
  | _ :: _, [], _, h, _ => by cases h
  | _ :: _, _ :: _, [], _, h => by cases h
  | x :: a, y :: b, z :: c, h, h2 => by
    rw [HT.lexLt_cons] at h h2 ⊢
    by_cases e : x = y
    · subst e
      rw [if_pos rfl] at h
      by_cases e2 : x = z
      · rw [if_pos e2] at h2 ⊢
        exact lex_tr a b c h h2
      · rw [if_neg e2] at h2 ⊢; exact h2
    · rw [if_neg e] at h
      by_cases e2 : y = z
      · subst e2
        rw [if_neg e]; exact h
      · rw [if_neg e2] at h2
        simp only [decide_eq_true_eq] at h h2
        rw [if_neg (by omega)]
        simp; omega
theorem sto_lex : STO HT.lexLt := ⟨lex_irr, lex_tr, lex_tri⟩
theorem code_lt {B : Int} : ∀ {a b : List Int}, a.length = b.length → TS.Bd B a → TS.Bd B b → HT.lexLt b a = true → TS.code B b < TS.code B a
  | [], [], _, _, _, h => by cases h
  | [], _ :: _, h, _, _, _ => by simp at h
  | _ :: _, [], h, _, _, _ => by simp at h
  | x :: a, y :: b, hl, ha, hb, h => by
    have hl' : a.length = b.length := by simpa using hl
    have rng : ∀ {c : List Int}, TS.Bd B c → 0 < B ∨ c = [] → 0 ≤ TS.code B c ∧ TS.code B c < B ^ c.length := by
      intro c
      induction c with
      | nil => intro _ _; exact ⟨show (0 : Int) ≤ 0 by omega, show (0 : Int) < B ^ 0 by rw [Int.pow_zero]; omega⟩
      | cons z c ih =>
        intro hc hB
        have hz := hc.head
        obtain ⟨i1, i2⟩ := ih hc.tail (.inl (by omega))
        have := TS.num1 (P := B ^ c.length) (d := z) (B := B) i1 i2 hz.1 hz.2
        show 0 ≤ z * B ^ c.length + TS.code B c ∧ z * B ^ c.length + TS.code B c < B ^ (c.length + 1)
        rw [Int.pow_succ]
        exact this
    have hx := ha.head
    have hy := hb.head
    obtain ⟨ra1, ra2⟩ := rng ha.tail (.inl (by omega))
    obtain ⟨rb1, rb2⟩ := rng hb.tail (.inl (by omega))
    show y * B ^ b.length + TS.code B b < x * B ^ a.length + TS.code B a
    rw [HT.lexLt_cons] at h
    rw [← hl'] at rb2 ⊢
    by_cases e : y = x
    · subst e
      rw [if_pos rfl] at h
      have := code_lt hl' ha.tail hb.tail h
      omega
    · rw [if_neg e] at h
      simp only [decide_eq_true_eq] at h
      have p1 : (y + 1) * B ^ a.length ≤ x * B ^ a.length := Int.mul_le_mul_of_nonneg_right (by omega) (by omega)
      rw [Int.add_mul, Int.one_mul] at p1
      omega

def tupIs : List D → Option (List (List Int))
  | [] => some []
  | .tuple xs :: r => (isIntss xs).bind fun a => (tupIs r).map (a :: ·)
  | _ :: _ => none
def bdOk (ts : List (List Int)) : Bool := ts.all fun t => (t.length == (ts.headD []).length) && decide (1 ≤ t.length) && t.all fun m => decide (0 ≤ m)
abbrev tupD (t : List Int) : D := .tuple (t.map .int)
def gSortSet : D → Option (List D)
  | .list xs => match isIntss xs with
    | some ns => if ns.length ≤ 60 then some ((setU ltI ns).map .int) else none
    | none => match tupIs xs with
      | some ts => if (decide (ts.length < 64) && bdOk ts) = true then some ((setU HT.lexLt ts).map tupD) else none
      | none => none
  | .tuple xs => match isIntss xs with
    | some ns => if ns.length ≤ 60 then some ((setU ltI ns).map .int) else none
    | none => none
  | _ => none
theorem tupIs_map : ∀ {ds : List D} {ts : List (List Int)}, tupIs ds = some ts → ds = ts.map tupD
  | [], ts, h => by cases h; rfl
  | .tuple xs :: r, ts, h => by
    simp only [tupIs, Option.bind_eq_some_iff, Option.map_eq_some_iff] at h
    obtain ⟨a, h1, b, h2, rfl⟩ := h
    rw [isIntss_map h1, tupIs_map h2]; rfl
  | .none :: _, _, h | .bool _ :: _, _, h | .str _ :: _, _, h | .list _ :: _, _, h | .int _ :: _, _, h | .dict _ :: _, _, h => by simp [tupIs] at h
theorem tupIs_of : ∀ ts : List (List Int), tupIs (ts.map tupD) = some ts
  | [] => rfl
  | t :: ts => by simp [tupIs, tupIs_of ts, isIntss_of]
theorem bd_ex : ∀ ts : List (List Int), (∀ t ∈ ts, ∀ m ∈ t, (0 : Int) ≤ m) → ∃ B, ∀ t ∈ ts, TS.Bd B t := by
  have one : ∀ t : List Int, ∃ B, ∀ m ∈ t, m < B := by
    intro t
    induction t with
    | nil => exact ⟨0, by simp⟩
    | cons x t ih =>
      obtain ⟨B, h⟩ := ih
      refine ⟨max B (x + 1), fun m hm => ?_⟩
      rcases List.mem_cons.mp hm with rfl | hm
      · omega
      · have := h m hm; omega
  intro ts
  induction ts with
  | nil => exact fun _ => ⟨0, by simp⟩
  | cons t ts ih =>
    intro h
    obtain ⟨B1, h1⟩ := ih fun u hu => h u (List.mem_cons_of_mem _ hu)
    obtain ⟨B2, h2⟩ := one t
    refine ⟨max B1 B2, fun u hu m hm => ?_⟩
    rcases List.mem_cons.mp hu with rfl | hu
    · exact ⟨h u (by simp) m hm, by have := h2 m hm; omega⟩
    · have := h1 u hu m hm; exact ⟨this.1, by omega⟩

/-! ### the rule -/
def ssF (f : EF) : AF := fun ρ st => (f ρ st).bnd fun d st => .ofO (gSortSet d) st
section
variable {K : PySem.W.Frag} {C : Nat → Addr}
theorem RepA.tups {N : Nv} : ∀ {ts : List (List Int)} {vs : List V}, RepA N vs (ts.map tupD) → ∃ as : List Addr, vs = as.map V.ref ∧ as.length = ts.length ∧ ∀ p ∈ as.zip ts, N.F p.1 = some (.tup (p.2.map V.int)) ∧ p.2.length ≤ sizeLine
  | [], _, .nil => ⟨[], rfl, rfl, by simp⟩
  | t :: ts, _, .cons r rt => by
    obtain ⟨a, us, rfl, ha, za, ra⟩ := r.inT
    rw [ra.ints] at ha
    obtain ⟨as, rfl, hl, h⟩ := RepA.tups rt
    refine ⟨a :: as, rfl, by simp [hl], fun p hp => ?_⟩
    rcases List.mem_cons.mp hp with rfl | hp
    · exact ⟨ha, by simpa using za⟩
    · exact h p hp
end
section
variable {X : Cx} {C : Nat → Addr} {W : WX} {k : Nat} {e : Expr} {f : EF} {p p2 pos pos2 : Pos}
theorem dl_sset (g : G X C W k) (ha : DE X C W f e) (hm : X.mg "sorted" = none) (hm2 : X.mg "set" = none) (hg : Gl X "sorted" := by rfl) (hg2 : Gl X "set" := by rfl)
    (h1 : starEach [.Call (.Name "set" p2) [e] [] pos2] X.env = (false, eval (.Call (.Name "set" p2) [e] [] pos2) X.env) :: starEach [] X.env := by rfl) (h2 : (backTo pos (starEach [] X.env)).any (·.1) = false := by rfl)
    (h3 : starEach [e] X.env = (false, eval e X.env) :: starEach [] X.env := by rfl) (h4 : (backTo pos2 (starEach [] X.env)).any (·.1) = false := by rfl) :
    DL X C W (ssF f) (.Call (.Name "sorted" p) [.Call (.Name "set" p2) [e] [] pos2] [] pos) :=
  PE.imp (pe_callB (CallR.or (cr_sortedSet g.calm) (cr_sortedT g.calm)) hg hm bo_sorted
    (pa_cons (pe_callTy (CallR.or (cr_setI g.calm) (cr_setOfT g.calm (by have := g.u65; omega))) hg2 hm2 bo_set (pa_cons ha pa_nil h3) (by decide) (by decide) h3 h4) pa_nil h1) (by decide) (by decide) h1 h2) fun σ H Q h => by
    obtain ⟨w, st, O, ρ, rel, h⟩ := h
    refine ⟨w, st, O, ρ, rel, (Out.bnd h).mono fun w1 H1 d st1 g1 k1 h1 v rv => ?_⟩
    have fin : ∀ {o : HO} {a p : Addr} {vs : List V} {xs : List D}, gSortSet d = some xs → xs.length ≤ sizeLine → RepA (w1.env X.K C) vs xs → H1 a = none → upd H1 a o p = none → Q (.ref p) (upd (upd H1 a o) p (.lst vs)) := fun {o a p vs xs} e z r ha hp => by
      rw [e] at h1
      have k2 := Ok.raw k1 (o := o) ha
      refine raw_lst k2 r z (fun q us w' H' gg kk n0 n1 n2 n3 n4 n5 => ?_) hp
      have ga := Grow.raw k1 (o := o) ha
      have gt := ga.trans gg
      refine h1 w' H' gt kk q us ?_ n1 n2 n3 n4 n5
      exact g1.mono q (ga.mono q n0)
    have hI : ∀ {ns : List Int} {l : Addr}, v = .ref l → (SqL X.K H1 l (ns.map V.int) ∨ SqT X.K H1 l (ns.map V.int)) → ns.length ≤ 60 → gSortSet d = some ((setU ltI ns).map .int) →
        (fun xs H Q => rSetI X.K X.w xs H Q ∨ rSetOfT X.K X.prog X.w xs H Q) [v] H1 (fun x H2 => tNil σ H2 fun xs H3 => (fun xs H Q => rSortedSet X.w xs H Q ∨ rSortedT X.K X.prog X.w xs H Q) (x :: xs) H3 Q) := fun {ns l} e hs z eq => by
      refine .inl ⟨l, ns, by rw [e], hs, z, fun a n hn hf => .inl ⟨a, _, n, rfl, upd_same, by omega, fun ms q hp hmem hlen hq => ?_⟩⟩
      have em : ms = setU ltI ns := setU_of sto_int (hp.imp fun {a b} h => by simpa [ltI] using h) fun z => by rw [hmem]; simp
      rw [em]
      refine fin eq ?_ ?_ hf hq
      · rw [List.length_map]; have := @setU_len _ _ ltI ns; rw [sizeLine_eq]; omega
      · exact RepA.ofInts _
    show (fun xs H Q => rSetI X.K X.w xs H Q ∨ rSetOfT X.K X.prog X.w xs H Q) [v] H1 (fun x H2 => tNil σ H2 fun xs H3 => (fun xs H Q => rSortedSet X.w xs H Q ∨ rSortedT X.K X.prog X.w xs H Q) (x :: xs) H3 Q)
    cases d with
    | list xs =>
      obtain ⟨l, us, rfl, ha, za, ra⟩ := rv.inL
      cases e1 : isIntss xs with
      | some ns =>
        by_cases z : ns.length ≤ 60
        · have eq : gSortSet (.list xs) = some ((setU ltI ns).map .int) := by simp [gSortSet, e1, z]
          rw [isIntss_map e1] at ra
          rw [ra.ints] at ha
          exact hI rfl (.inl (SqL.of (k1.sub _ _ ha))) z eq
        · simp [gSortSet, e1, z] at h1; exact h1.elim
      | none =>
        cases e2 : tupIs xs with
        | none => simp [gSortSet, e1, e2] at h1; exact h1.elim
        | some ts =>
          by_cases z : (decide (ts.length < 64) && bdOk ts) = true
          · have eq : gSortSet (.list xs) = some ((setU HT.lexLt ts).map tupD) := by simp only [gSortSet, e1, e2]; rw [if_pos z]
            obtain ⟨z1, z2⟩ := Bool.and_eq_true_iff.mp z
            have z1' : ts.length < 64 := by simpa using z1
            have z3 : ∀ t ∈ ts, t.length = (ts.headD []).length ∧ 1 ≤ t.length ∧ ∀ m ∈ t, (0 : Int) ≤ m := fun t ht => by
              have := List.all_eq_true.mp z2 t ht
              simp only [Bool.and_eq_true, beq_iff_eq, decide_eq_true_eq, List.all_eq_true] at this
              exact ⟨this.1.1, this.1.2, this.2⟩
            rw [tupIs_map e2] at ra
            obtain ⟨as, rfl, hl, hz⟩ := ra.tups
            have hat : ∀ p ∈ as.zip ts, SqT X.K H1 p.1 (p.2.map V.int) := fun p hp => SqT.of (k1.sub _ _ (hz p hp).1)
            have hts : ∀ p ∈ as.zip ts, p.2 ∈ ts := fun p hp => (List.of_mem_zip hp).2
            obtain ⟨B, hB⟩ := bd_ex ts fun t ht => (z3 t ht).2.2
            have hlz : (as.zip ts).map (fun p => V.ref p.1) = as.map V.ref := by
              rw [show (fun p : Addr × List Int => V.ref p.1) = V.ref ∘ Prod.fst from rfl, ← List.map_map, List.map_fst_zip (by omega)]
            refine .inr ⟨l, as.zip ts, rfl, by rw [hlz]; exact SqL.of (k1.sub _ _ ha), hat, by rw [List.length_zip]; omega, fun a L hf s1 s2 => .inr ⟨a, L, max 1 (ts.headD []).length, B, rfl, upd_same, fun p hp => ?_, by omega, fun p hp => ?_, fun L' q pm nd few pw hq => ?_⟩⟩
            · exact (SqT.of (by rw [upd_ne (ne_of_none (k1.sub _ _ (hz p (s1 p hp)).1) hf)]; exact k1.sub _ _ (hz p (s1 p hp)).1))
            · have ht := hts p (s1 p hp)
              have := z3 _ ht
              exact ⟨by omega, hB _ ht⟩
            · have mem1 : ∀ p ∈ L', p ∈ as.zip ts := fun p hp => s1 p (pm.mem_iff.mp hp)
              have em : L'.map (·.2) = setU HT.lexLt ts := by
                refine setU_of sto_lex ?_ fun t => ?_
                · rw [List.pairwise_map]
                  have nd' := List.pairwise_map.mp nd
                  refine (pw.and nd').imp_of_mem fun {x y} hx hy h => ?_
                  rcases lex_tri x.2 y.2 with q | q | q
                  · exact q
                  · exact absurd q h.2
                  · have tx := hts x (mem1 x hx)
                    have ty := hts y (mem1 y hy)
                    have := code_lt (B := B) (by rw [(z3 _ tx).1, (z3 _ ty).1]) (hB _ tx) (hB _ ty) q
                    have := h.1
                    omega
                · constructor
                  · intro ht
                    obtain ⟨p, hp, rfl⟩ := List.mem_map.mp ht
                    exact hts p (mem1 p hp)
                  · intro ht
                    obtain ⟨i, hi, e⟩ := List.getElem_of_mem ht
                    have hm : (as[i], t) ∈ as.zip ts := by
                      rw [← e]
                      exact List.mem_iff_getElem.mpr ⟨i, by rw [List.length_zip]; omega, by simp⟩
                    have := s2 _ hm
                    exact (pm.map (·.2)).mem_iff.mpr this
              have rr : ∀ L2 : List (Addr × List Int), (∀ p ∈ L2, p ∈ as.zip ts) → RepA (w1.env X.K C) (L2.map fun q => V.ref q.1) ((L2.map (·.2)).map tupD) := fun L2 => by
                induction L2 with
                | nil => exact fun _ => .nil
                | cons p L2 ih =>
                  intro h
                  have hp := h p (by simp)
                  exact .cons (.tup (hz p hp).1 (by rw [List.length_map]; exact (hz p hp).2) (RepA.ofInts _)) (ih fun q hq => h q (List.mem_cons_of_mem _ hq))
              refine fin eq ?_ ?_ hf hq
              · rw [List.length_map]; have := @setU_len _ _ HT.lexLt ts; rw [sizeLine_eq]; omega
              · rw [← em]; exact rr L' mem1
          · have eq : gSortSet (.list xs) = none := by simp only [gSortSet, e1, e2]; rw [if_neg z]
            rw [eq] at h1; exact h1.elim
    | tuple xs =>
      obtain ⟨l, us, rfl, ha, za, ra⟩ := rv.inT
      cases e1 : isIntss xs with
      | some ns =>
        by_cases z : ns.length ≤ 60
        · have eq : gSortSet (.tuple xs) = some ((setU ltI ns).map .int) := by simp [gSortSet, e1, z]
          rw [isIntss_map e1] at ra
          rw [ra.ints] at ha
          exact hI rfl (.inr (SqT.of (k1.sub _ _ ha))) z eq
        · simp [gSortSet, e1, z] at h1; exact h1.elim
      | none => simp [gSortSet, e1] at h1; exact h1.elim
    | _ => exact h1.elim
end
end BF

/-! BF18: tuple * int, every small number. -/
namespace BF
open PySem L2 PySem.Spec PyProof.Rows
theorem tuple_mul1 (l : Addr) (items : Array Value) (n : Nat) (dd : Option Addr) (sl : Array (Option Value)) (x : Int) (u : Tok) (c0 : (decide (x < -(2 ^ 63)) || decide (x ≥ 2 ^ 63)) = false) (c1 : (items.isEmpty || x == 1) = true) :
    Meets (Builtin.«tuple.__mul__» ⟨[.ref l, .int x u], []⟩) (fun _ R s => s.heap.get? l = some { cls := .type "tuple", dict := dd, data := .seq items n, slots := sl } ∧ R (.ok (.ret (Value.ref l))) s) :=
  .of_wp fun prog w A R s h => by
    obtain ⟨hp, g, d, tk, os⟩ := s
    obtain ⟨hl, h⟩ := h
    have f1 := AutoSeq1.idx_int
    wp_walk using wpAny_loadPart' hl
    repeat (first
      | (refine wpAny_ite_false (decide_eq_false (by rw [c0]; exact Bool.false_ne_true)) ?_; wp_walk using wpAny_loadPart' hl)
      | (refine wpAny_ite_true (decide_eq_true c1) ?_; wp_walk using wpAny_loadPart' hl))
    exact ⟨_, rfl, h⟩
theorem tuple_mul0 (l : Addr) (items : Array Value) (n : Nat) (dd : Option Addr) (sl : Array (Option Value)) (x : Int) (u : Tok) (c0 : (decide (x < -(2 ^ 63)) || decide (x ≥ 2 ^ 63)) = false) (c1 : (items.isEmpty || x == 1) = false) (c2 : (decide (x ≤ 0) || items.isEmpty) = true) :
    Meets (Builtin.«tuple.__mul__» ⟨[.ref l, .int x u], []⟩) (fun _ R s => s.heap.get? l = some { cls := .type "tuple", dict := dd, data := .seq items n, slots := sl } ∧
      R (.ok (.ret (Value.ref s.heap.objs.size))) { s with heap := s.heap.push { cls := Value.type "tuple", data := Data.seq #[] }, toks := s.toks }) :=
  .of_wp fun prog w A R s h => by
    obtain ⟨hp, g, d, tk, os⟩ := s
    obtain ⟨hl, h⟩ := h
    have f1 := AutoSeq1.idx_int
    wp_walk using wpAny_loadPart' hl
    repeat (first
      | (refine wpAny_ite_false (decide_eq_false (by rw [c0]; exact Bool.false_ne_true)) ?_; wp_walk using wpAny_loadPart' hl)
      | (refine wpAny_ite_false (decide_eq_false (by rw [c1]; exact Bool.false_ne_true)) ?_; wp_walk using wpAny_loadPart' hl)
      | (refine wpAny_ite_true (decide_eq_true c2) ?_; wp_walk using wpAny_loadPart' hl))
    exact ⟨_, rfl, h⟩
def rRepT1 (K : PySem.W.Frag) : R2 := fun x y H Q => ∃ l k xs, x = .ref l ∧ y = .int k ∧ SqT K H l xs ∧ (xs = [] ∨ k = 1) ∧ 0 ≤ k ∧ k ≤ 1000 ∧ Q (.ref l) H
def rRepT0 (K : PySem.W.Frag) : R2 := fun x y H Q => ∃ l k xs, x = .ref l ∧ y = .int k ∧ SqT K H l xs ∧ xs ≠ [] ∧ k = 0 ∧ ∀ p, H p = none → Q (.ref p) (upd H p (.tup []))
section
variable {X : Cx}
theorem op_repT1 : OpR X (binaryOp .Mult) (rRepT1 X.K) := by
  intro pins s σ H x y v u Q I rx ry h
  obtain ⟨l, k, xs, rfl, rfl, hT, he, h1, h2, q⟩ := h
  cases rx
  obtain ⟨t, rfl⟩ := ry
  obtain ⟨its, r, ⟨⟨cls, dd, data, sl⟩, ho, hc, n, hd⟩, hs⟩ := I.tuple hT
  simp only at hc hd
  subst hc hd
  have hl : its.length = xs.length := r.length.symm
  have c0 : (decide (k < -(2 ^ 63)) || decide (k ≥ 2 ^ 63)) = false := by rw [decide_eq_false (by omega), decide_eq_false (by omega)] <;> rfl
  have c1 : (its.toArray.isEmpty || k == 1) = true := by
    rcases he with rfl | rfl
    · have : its = [] := List.eq_nil_of_length_eq_zero (by simpa using hl)
      subst this; rfl
    · simp
  exact wpAny_binaryOp_repeat_ref (T := "tuple") (U := "int") (by decide) ⟨_, ho, rfl⟩ (fun s' => typeIs_int s' k t) noFill_tuple_mul F.fills_int_mul F.slot_int_rmul repeat_tuple F.slot_int_index.lookup
    (call_meets F.slot_int_rmul (typeIs_int s k t) F.entry_int_rmul (F.args_int_rmul_2 _ _) (int_rmul_tuple k t l its.toArray n dd sl)
      ⟨ho, rfl, ⟨_, ho, rfl⟩, call_meets F.slot_tuple_mul ⟨_, ho, rfl⟩ F.entry_tuple_mul (F.args_tuple_mul_2 _ _) (tuple_mul1 l its.toArray n dd sl k t c0 c1) ⟨ho, .ref l, H, I.tok _, rfl, q⟩⟩)
theorem op_repT0 : OpR X (binaryOp .Mult) (rRepT0 X.K) := by
  intro pins s σ H x y v u Q I rx ry h
  obtain ⟨l, k, xs, rfl, rfl, hT, he, rfl, q⟩ := h
  cases rx
  obtain ⟨t, rfl⟩ := ry
  obtain ⟨its, r, ⟨⟨cls, dd, data, sl⟩, ho, hc, n, hd⟩, hs⟩ := I.tuple hT
  simp only at hc hd
  subst hc hd
  have hl : its.length = xs.length := r.length.symm
  have c1 : (its.toArray.isEmpty || (0 : Int) == 1) = false := by
    cases its with
    | nil => exact absurd (List.eq_nil_of_length_eq_zero (by simpa using hl.symm)) he
    | cons a b => rfl
  refine wpAny_binaryOp_repeat_ref (T := "tuple") (U := "int") (by decide) ⟨_, ho, rfl⟩ (fun s' => typeIs_int s' 0 t) noFill_tuple_mul F.fills_int_mul F.slot_int_rmul repeat_tuple F.slot_int_index.lookup
    (call_meets F.slot_int_rmul (typeIs_int s 0 t) F.entry_int_rmul (F.args_int_rmul_2 _ _) (int_rmul_tuple 0 t l its.toArray n dd sl)
      ⟨ho, rfl, ⟨_, ho, rfl⟩, call_meets F.slot_tuple_mul ⟨_, ho, rfl⟩ F.entry_tuple_mul (F.args_tuple_mul_2 _ _) (tuple_mul0 l its.toArray n dd sl 0 t (by decide) c1 rfl) ⟨ho, ?_⟩⟩)
  refine ⟨.ref s.heap.objs.size, _, I.laid (t' := s.toks) (o := .tup []) (fun b ob q => Heap.get?_push_of_some _ q) (Nat.le_refl _) ?_, rfl, q _ (I.hok.fresh (Nat.le_refl _))⟩
  exact ⟨Nat.zero_le _, [], .nil, IsTup.new _ _⟩
end
/-- tuple * int -/
def gMulT : D → D → Option D
  | .tuple xs, .int n => if xs.length ≤ 1000 ∧ 0 ≤ n ∧ n ≤ 1000 then some (.tuple (List.replicate n.toNat xs).flatten) else none
  | _, _ => none
section
variable {X : Cx} {K : PySem.W.Frag} {C : Nat → Addr}
abbrev rMulTs (K : PySem.W.Frag) : R2 := fun x y H Q => rRepT K x y H Q ∨ rRepT1 K x y H Q ∨ rRepT0 K x y H Q
theorem or_mulT : OpR X (binaryOp .Mult) (rMulTs X.K) := OpR.or op_repT (OpR.or op_repT1 op_repT0)
theorem os_mulT : Op2 K C (rMulTs K) gMulT := by
  intro w st H v u x y d Q k rv ru e q
  cases x <;> cases y <;> simp only [gMulT, reduceCtorEq] at e
  case tuple.int xs n =>
    cases ru.inI
    have rv0 := rv
    obtain ⟨a, vs, rfl, ha, za, ra⟩ := rv.inT
    split at e
    · rename_i hz
      cases e
      have hs : SqT K H a vs := SqT.of (k.sub _ _ ha)
      by_cases h0 : n = 0 ∧ xs ≠ []
      · obtain ⟨rfl, hx⟩ := h0
        refine .inr (.inr ⟨a, 0, vs, rfl, rfl, hs, fun e => hx ?_, rfl, fun p hp => new_tup k .nil (Nat.zero_le _) q hp⟩)
        subst e
        cases ra; rfl
      · by_cases h1 : xs = [] ∨ n = 1
        · refine .inr (.inl ⟨a, n, vs, rfl, rfl, hs, ?_, hz.2.1, hz.2.2, ?_⟩)
          · rcases h1 with rfl | h1
            · cases ra; exact .inl rfl
            · exact .inr h1
          · have e : (List.replicate n.toNat xs).flatten = xs := by
              rcases h1 with rfl | rfl
              · simp
              · simp
            rw [e] at q
            exact q.id k rv0
        · have hm : n.toNat * xs.length ≤ 1000 * 1000 := Nat.mul_le_mul (by omega) hz.1
          have h0' := size_line
          have hl : (List.replicate n.toNat xs).flatten.length ≤ sizeLine := by rw [len_rep]; omega
          have hx : xs ≠ [] := fun e => h1 (.inl e)
          have n1 : n ≠ 1 := fun e => h1 (.inr e)
          have n0 : n ≠ 0 := fun e => h0 ⟨e, hx⟩
          refine .inl ⟨a, n, vs, rfl, rfl, hs, fun e => hx ?_, by omega, hz.2.2, ?_, fun p hp => new_tup k (ra.rep _) hl q hp⟩
          · subst e; cases ra; rfl
          · rw [ra.length]; exact hz.1
    · cases e
end
end BF

/-! BF19: list(range), is True, int(..), join, split; own lists read and stored into where they stand. -/
namespace BF
open PySem L2

/-! ### list(range(..)) -/
section
variable {X : Cx} {C : Nat → Addr} {W : WX} {k : Nat} {a b : Expr} {fa fb : EF} {p p2 pos pos2 : Pos}
theorem rep_rg {N : Nv} {i j : Int} : RepA N (rgV i j) ((List.range (j - i).toNat).map fun m => PyData.int (i + (m : Nat))) := by
  unfold rgV
  have := RepA.ofInts (N := N) ((List.range (j - i).toNat).map fun m => i + ((m : Nat) : Int))
  rw [List.map_map, List.map_map] at this
  exact this
theorem dl_lr1 (g : G X C W k) (hm : X.mg "list" = none) (hr : X.mg "range" = none) (ha : DE X C W fa a) (hg : Gl X "list" := by rfl) (hg2 : Gl X "range" := by rfl)
    (na : starEach [a] X.env = (false, eval a X.env) :: starEach [] X.env := by rfl)
    (nb : starEach [.Call (.Name "range" p2) [a] [] pos2] X.env = (false, eval (.Call (.Name "range" p2) [a] [] pos2) X.env) :: starEach [] X.env := by rfl) :
    DL X C W (rng1 fa) (.Call (.Name "list" p) [.Call (.Name "range" p2) [a] [] pos2] [] pos) :=
  PE.imp (pe_listRg g.calm hg hm (prg_1 hg2 hr ha na) nb) fun σ H Q ⟨w, st, O, ρ, rel, h⟩ => by
    refine ⟨w, st, O, ρ, rel, (Out.bnd h).mono fun w1 H1 d st1 g1 k1 h1 v rv => ?_⟩
    cases d with
    | int j =>
      cases rv.inI
      by_cases hj : -1000000 ≤ j ∧ j ≤ 1000000
      · simp only [hj, and_self, if_true] at h1
        refine ⟨j, rfl, ⟨by omega, by omega, by omega, by omega, by omega⟩, fun q hq => ?_⟩
        have rr := rep_rg (N := w1.env X.K C) (i := 0) (j := j)
        simp only [Int.sub_zero, Int.zero_add] at rr
        exact raw_lst k1 rr (by rw [List.length_map, List.length_range, sizeLine_eq]; omega) (fun q us w' H' gg kk n0 n1 n2 n3 n4 n5 => h1 w' H' gg kk q us (g1.mono q n0) n1 n2 n3 n4 n5) hq
      · simp only [if_neg hj] at h1; exact h1.elim
    | _ => exact h1.elim
theorem dl_lr2 (g : G X C W k) (hm : X.mg "list" = none) (hr : X.mg "range" = none) (ha : DE X C W fa a) (hb : DE X C W fb b) (hg : Gl X "list" := by rfl) (hg2 : Gl X "range" := by rfl)
    (na : starEach [a, b] X.env = (false, eval a X.env) :: starEach [b] X.env := by rfl) (nc : starEach [b] X.env = (false, eval b X.env) :: starEach [] X.env := by rfl) (hp : (backTo pos2 (starEach [b] X.env)).any (·.1) = false := by rfl)
    (nb : starEach [.Call (.Name "range" p2) [a, b] [] pos2] X.env = (false, eval (.Call (.Name "range" p2) [a, b] [] pos2) X.env) :: starEach [] X.env := by rfl) :
    DL X C W (rng2 fa fb) (.Call (.Name "list" p) [.Call (.Name "range" p2) [a, b] [] pos2] [] pos) :=
  PE.imp (pe_listRg g.calm hg hm (prg_2 hg2 hr ha hb na nc hp) nb) fun σ H Q ⟨w, st, O, ρ, rel, h⟩ => by
    refine ⟨w, st, O, ρ, rel, (Out.bnd h).mono fun w1 H1 d st1 g1 k1 h1 v rv => ?_⟩
    refine ⟨w1, st1, O, ρ, rel.grow g1 k1, (Out.bnd h1).mono fun w2 H2 e st2 g2 k2 h2 u ru => ?_⟩
    cases d <;> cases e <;> first | exact h2.elim | skip
    rename_i i j
    cases rv.inI; cases ru.inI
    by_cases hj : -1000000 ≤ i ∧ i ≤ 1000000 ∧ -1000000 ≤ j ∧ j ≤ 1000000
    · simp only [hj, and_self, if_true] at h2
      refine ⟨i, j, rfl, rfl, ⟨by omega, by omega, by omega, by omega, by omega⟩, fun q hq => ?_⟩
      exact raw_lst k2 rep_rg (by rw [List.length_map, List.length_range, sizeLine_eq]; omega) (fun q us w' H' gg kk n0 n1 n2 n3 n4 n5 => h2 w' H' gg kk q us (g1.mono q (g2.mono q n0)) n1 n2 n3 n4 n5) hq
    · simp only [if_neg hj] at h2; exact h2.elim
end

/-! ### is True, is False -/
def gIsB : D → D → Option Bool
  | .bool a, .bool b => some (a == b)
  | _, _ => none
section
variable {K : PySem.W.Frag} {C : Nat → Addr}
theorem os_isB : Cm2 K C rIsB gIsB := by
  intro w st H v u x y b Q k rv ru e q
  cases x <;> cases y <;> simp only [gIsB, reduceCtorEq] at e
  cases rv.inB; cases ru.inB
  cases e
  exact ⟨_, _, rfl, rfl, q⟩

/-! ### int(x) -/
def gIntA : List D → Option D
  | [.int i] => some (.int i)
  | [.bool b] => some (.int (if b then 1 else 0))
  | [.str x] => if x.length ≤ 640 then (PySem.intText? x).map .int else none
  | _ => none
end
abbrev rIntA : List V → Hp → VK → Prop := fun xs H Q => ((∃ i, xs = [.int i] ∧ Q (.int i) H) ∨ ∃ k, xs = [.bl k] ∧ Q (.int (if k then 1 else 0)) H) ∨ ∃ a n, xs = [.str a] ∧ PySem.intText? a = some n ∧ a.length ≤ 640 ∧ Q (.int n) H
theorem call_intA {X : Cx} : CallR X (.type "int") rIntA := CallR.or call_int1 call_int_str
theorem cs_intA {K : PySem.W.Frag} {C : Nat → Addr} : CallA K C rIntA gIntA := by
  intro w st H vs ds d Q k r e q
  match ds, e with
  | [.int i], e => exact .inl (cs_int w st H vs _ d Q k r e q)
  | [.bool b], e => exact .inl (cs_int w st H vs _ d Q k r e q)
  | [.str x], e => exact .inr (cs_intS w st H vs _ d Q k r e q)

/-! ### texts: join, split -/
def isStrs : List D → Option (List Str)
  | [] => some []
  | .str x :: r => (isStrs r).map (x :: ·)
  | _ :: _ => none
theorem isStrs_map : ∀ {ds : List D} {ns : List Str}, isStrs ds = some ns → ds = ns.map .str
  | [], ns, h => by cases h; rfl
  | .str i :: r, ns, h => by
    simp only [isStrs, Option.map_eq_some_iff] at h
    obtain ⟨m, h, rfl⟩ := h
    rw [isStrs_map h]; rfl
  | .none :: _, _, h | .bool _ :: _, _, h | .int _ :: _, _, h | .list _ :: _, _, h | .tuple _ :: _, _, h | .dict _ :: _, _, h => by simp [isStrs] at h
theorem isStrs_of : ∀ ns : List Str, isStrs (ns.map .str) = some ns
  | [] => rfl
  | n :: ns => by simp [isStrs, isStrs_of ns]
def gJoin (x y : D) : Option D := match x with
  | .str a => match y with
    | .list ds => (isStrs ds).bind fun ys => if (ys.map (·.length)).sum + ys.length * a.length ≤ 16777216 then some (.str (Txt.join a ys)) else none
    | _ => none
  | _ => none
def gSplit (x y : D) : Option (List D) := match x with
  | .str a => match y with
    | .str b => if (b.length == 0) = false ∧ a.length + 2 ≤ sizeLine then some ((Txt.split a b).map .str) else none
    | _ => none
  | _ => none
def isStr : D → Bool
  | .str _ => true
  | _ => false
/-- o.m(a), o a text -/
def methS {α : Type} (g : D → D → Option α) (fo fa : EF) : XF α := fun ρ st => (fo ρ st).bnd fun x st => if isStr x = true then (fa ρ st).bnd fun y st => .ofO (g x y) st else .bad
section
variable {X : Cx} {C : Nat → Addr} {W : WX} {o a : Expr} {fo fa : EF} {apos pos : Pos}
theorem de_join (ho : DE X C W fo o) (ha : DE X C W fa a) (hs : starEach [a] X.env = [(false, eval a X.env)] := by rfl) (hbase : attributeBase o "join" X.env (eval o X.env) = eval o X.env := by rfl) (hline : (apos.endLine == pos.line) = true := by rfl) :
    DE X C W (methS gJoin fo fa) (.Call (.Attribute o "join" apos) [a] [] pos) :=
  PE.imp (pe_join ho ha hs hbase hline) fun σ H Q ⟨w, st, O, ρ, rel, h⟩ => by
    refine ⟨w, st, O, ρ, rel, (Out.bnd h).mono fun w1 H1 x st1 g1 k1 h1 v rv => ?_⟩
    cases x with
    | str z =>
      cases rv.inS
      refine ⟨⟨z, rfl⟩, w1, st1, O, ρ, rel.grow g1 k1, (Out.bnd h1).mono fun w2 H2 y st2 g2 k2 h2 u ru => ?_⟩
      cases y with
      | list ds =>
        obtain ⟨b, us, rfl, hb, zb, rb⟩ := ru.inL
        simp only [gJoin] at h2
        cases e : isStrs ds with
        | none => rw [e] at h2; exact h2.elim
        | some ys =>
          rw [e] at h2
          simp only [Option.bind_some] at h2
          rw [isStrs_map e] at rb
          rw [rb.strs] at hb
          split at h2
          · rename_i hz
            exact ⟨z, b, ys, rfl, rfl, .inl (SqL.of (k2.sub _ _ hb)), hz, Out.here h2 k2 _ (.str _)⟩
          · exact h2.elim
      | _ => exact h2.elim
    | _ => exact h1.elim
theorem dl_split (ho : DE X C W fo o) (ha : DE X C W fa a) (hs : starEach [a] X.env = [(false, eval a X.env)] := by rfl) (hbase : attributeBase o "split" X.env (eval o X.env) = eval o X.env := by rfl) (hline : (apos.endLine == pos.line) = true := by rfl) :
    DL X C W (methS gSplit fo fa) (.Call (.Attribute o "split" apos) [a] [] pos) :=
  PE.imp (pe_split ho ha hs hbase hline) fun σ H Q ⟨w, st, O, ρ, rel, h⟩ => by
    refine ⟨w, st, O, ρ, rel, (Out.bnd h).mono fun w1 H1 x st1 g1 k1 h1 v rv => ?_⟩
    cases x with
    | str z =>
      cases rv.inS
      refine ⟨⟨z, rfl⟩, w1, st1, O, ρ, rel.grow g1 k1, (Out.bnd h1).mono fun w2 H2 y st2 g2 k2 h2 u ru => ?_⟩
      cases y with
      | str b =>
        cases ru.inS
        simp only [gSplit] at h2
        split at h2
        · rename_i hz
          refine ⟨z, b, rfl, rfl, hz.1, hz.2, fun p hp => ?_⟩
          have hl := PyProof.Rows.split_le z b
          exact raw_lst k2 (RepA.ofStrs _) (by rw [List.length_map]; omega) (fun q us w' H' gg kk n0 n1 n2 n3 n4 n5 => h2 w' H' gg kk q us (g1.mono q (g2.mono q n0)) n1 n2 n3 n4 n5) hp
        · exact h2.elim
      | _ => exact h2.elim
    | _ => exact h1.elim
end
end BF

/-! BF20: own lists read and stored into where they stand; a + b made anew. -/
namespace BF
open PySem L2

def liftTO (g : D → D → Option Bool) (fa : EF) (i : Nat) : TF := fun ρ st => (fa ρ st).bnd fun x st => match ρ[i]? with
  | some (.own ds) => .ofO (g x (.list ds)) st
  | _ => .bad
def idxO (i : Nat) (fb : EF) : EF := fun ρ st => match ρ[i]? with
  | some (.own _) => (fb ρ st).bnd fun y st => match ρ[i]?, y with
    | some (.own ds), .int j => .ofO (atI ds j) st
    | _, _ => .bad
  | _ => .bad
def stO (i : Nat) (fi fa : EF) : SF := fun ρ st => match ρ[i]? with
  | some (.own ds) => SO.ofE (fa ρ st) ρ fun d st => SO.ofE (fi ρ st) ρ fun y st => match y with
    | .int j => (match ixN ds.length j with
      | some m => .nx (ρ.set i (.own (ds.set m d))) st
      | none => .bad)
    | _ => .bad
  | _ => .bad
theorem repA_set {N : Nv} {v : V} {d : D} : ∀ {vs : List V} {ds : List D}, RepA N vs ds → ∀ m : Nat, Rep N v d → RepA N (vs.set m v) (ds.set m d)
  | _, _, .nil, _, _ => .nil
  | _, _, .cons r t, 0, h => .cons h t
  | _, _, .cons r t, m + 1, h => .cons r (repA_set t m h)
section
variable {K : PySem.W.Frag} {C : Nat → Addr} {W : WX} {w : Wd} {st : Sto} {O : Nat → List Addr} {ρ : Slots} {σ : St} {H : Hp}
theorem Rel.own (r : Rel K C w st O ρ σ H) {i : Nat} {ds : List D} (e : ρ[i]? = some (.own ds)) : ∃ p vs, O i = [p] ∧ σ[i]? = some (some (.ref p)) ∧ H p = some (.lst vs) ∧ ds.length ≤ sizeLine ∧ RepA (w.env K C) vs ds ∧ w.F p = none ∧ ¬ w.In p := by
  obtain ⟨v, ev, a, h1, h2, vs, h3, z, h4⟩ := r.slot i _ e
  subst h2
  have hp : a ∈ O i := by rw [h1]; simp
  exact ⟨a, vs, h1, ev, h3, z, h4, (r.ofz i a hp).1, (r.ofz i a hp).2⟩
end
section
variable {X : Cx} {C : Nat → Addr} {W : WX} {a b : Expr} {fa fb fi : EF} {x : Str} {p pos : Pos}
theorem dt_cmO (i : Nat) {op : CmpOp} {r : R2} {g : D → D → Option Bool} (ho : OpR X (compareOp op) r) (hs : Cm2 X.K C r g) (ha : DE X C W fa a) (hN : X.N[i]? = some x := by rfl) (hv : Vis X.env.scope x := by first | exact Or.inl rfl | exact Or.inr (Or.inl rfl) | exact Or.inr (Or.inr rfl))
    (hd : (x == ("__debug__" : Str)) = false := by decide) (hcd : (x == ("__classdict__" : Str)) = false := by decide) (hm : behindInMarks op (.Name x p) = false := by first | exact nomark _ (by decide) (by decide) | rfl) :
    DT X C W (liftTO g fa i) (.Compare a [op] [.Name x p] pos) :=
  PT.imp (pt_cmpR ho ha (pv i hN hv hd hcd) hm) fun σ H Q ⟨w, st, O, ρ, rel, h⟩ => by
    refine ⟨w, st, O, ρ, rel, (Out.bnd h).mono fun w1 H1 d st1 g1 k1 h1 v rv => ?_⟩
    have r1 := rel.grow g1 k1
    cases e : ρ[i]? with
    | none => simp only [e] at h1; exact h1.elim
    | some s =>
      simp only [e] at h1
      cases s with
      | own ds =>
        obtain ⟨q, vs, hO, hσ, hq, z, rq, z1, z2⟩ := r1.own e
        refine ⟨_, hσ, ?_⟩
        simp only at h1
        cases e2 : g d (.list ds) with
        | none => rw [e2] at h1; exact h1.elim
        | some bb =>
          rw [e2] at h1
          have le' := le_fz (K := X.K) (C := C) (o := .lst vs) z1
          exact hs (w1.fz q (.lst vs)) st1 H1 v (.ref q) d (.list ds) bb _ (k1.ice hq z1 z2) (rv.le le') (.lst (show upd w1.F q (.lst vs) q = _ from upd_same) z (rq.le le')) e2 ⟨bb, rfl, Out.here h1 k1⟩
      | _ => exact h1.elim
theorem de_idxO (i : Nat) (hb : DE X C W fb b) (hN : X.N[i]? = some x := by rfl) (hv : Vis X.env.scope x := by first | exact Or.inl rfl | exact Or.inr (Or.inl rfl) | exact Or.inr (Or.inr rfl))
    (hd : (x == ("__debug__" : Str)) = false := by decide) (hcd : (x == ("__classdict__" : Str)) = false := by decide) (hs : PlainIx b := by exact fun _ _ => rfl) : DE X C W (idxO i fb) (.Subscript (.Name x p) b pos) :=
  PE.imp (pe_ix ix_seq (pv i hN hv hd hcd) hb hs) fun σ H Q ⟨w, st, O, ρ, rel, h⟩ => by
    unfold idxO at h
    cases e : ρ[i]? with
    | none => simp only [e] at h; exact h.elim
    | some s =>
      simp only [e] at h
      cases s with
      | own ds =>
        obtain ⟨q, vs, hO, hσ, hq, z, rq, z1, z2⟩ := rel.own e
        refine ⟨_, hσ, w, st, O, ρ, rel, (Out.bnd h).mono fun w1 H1 y st1 g1 k1 h1 u ru => ?_⟩
        obtain ⟨d3, d1, d2⟩ := g1.apart k1 hq z1 z2
        cases y with
        | int j =>
          cases ru.inI
          simp only at h1
          cases e2 : atI ds j with
          | none => rw [e2] at h1; exact h1.elim
          | some d =>
            rw [e2] at h1
            obtain ⟨v', e1, r1⟩ := (rq.le (g1.le X.K C)).atI e2
            exact .inl ⟨q, vs, j, v', rfl, rfl, SqL.of d3, e1, Out.here h1 k1 _ r1⟩
        | _ => exact h1.elim
      | _ => exact h.elim
theorem ds_stO (i : Nat) {p2 : Pos} (ha : DE X C W fa a) (hi : DE X C W fi b) (hN : X.N[i]? = some x := by rfl) (hv : Vis X.env.scope x := by first | exact Or.inl rfl | exact Or.inr (Or.inl rfl) | exact Or.inr (Or.inr rfl))
    (hd : (x == ("__debug__" : Str)) = false := by decide) (hcd : (x == ("__classdict__" : Str)) = false := by decide)
    (hsub : ∀ v, assign (.Subscript (.Name x p) b p2) X.env v = (do
      let ov ← holding [v] (eval (.Name x p) X.env)
      let iv ← holding [v, ov] (eval b X.env)
      standAt p2
      holding [v, ov, iv] (setItem ov iv v)
      release [v, ov, iv] []) := by intro _; rfl)
    (hs : swapsWithSole [.Subscript (.Name x p) b p2] a pos.line X.env = pure false := by rfl) (hw : swappedStores [.Subscript (.Name x p) b p2] a X.env = pure none := by rfl)
    (h1 : (assignEach [.Subscript (.Name x p) b p2] X.env).map (·.2) = [assign (.Subscript (.Name x p) b p2) X.env] := by rfl) : DS X C W (stO i fi fa) (.Assign [.Subscript (.Name x p) b p2] a pos) := fun w0 H0 N0 =>
  PS.imp (ps_asg ha (pg_sub (pv i hN hv hd hcd) hi set_list hsub) hs hw h1) fun Dn σ H ⟨w, st, O, ρ, rel, h⟩ => by
    unfold stO at h
    cases e : ρ[i]? with
    | none => simp only [e] at h; exact h.elim
    | some s =>
      simp only [e] at h
      cases s with
      | own ds =>
        refine ⟨w, st, O, ρ, rel.rel, (ofE_imp h rel).mono fun w1 H1 d st1 g1 k1 ⟨r1, h1⟩ v rv => ?_⟩
        obtain ⟨q, vs, hO, hσ, hq, z, rq, z1, z2⟩ := r1.rel.own e
        refine ⟨_, hσ, w1, st1, O, ρ, r1.rel, (ofE_imp h1 r1).mono fun w2 H2 y st2 g2 k2 ⟨r2, h2⟩ u ru => ?_⟩
        obtain ⟨d3, d1, d2⟩ := g2.apart k2 hq z1 z2
        cases y with
        | int j =>
          cases ru.inI
          simp only at h2
          cases e2 : ixN ds.length j with
          | none => simp only [e2] at h2; exact h2.elim
          | some m =>
            simp only [e2] at h2
            have le2 := g2.le X.K C
            have rs := repA_set (rq.le le2) m (rv.le le2)
            refine ⟨q, vs, j, m, rfl, rfl, d3, by rw [rq.length]; exact e2, h2 w2 O σ _ (r2.upOwn e hO hσ ⟨q, rfl, rfl, _, upd_same, by rw [List.length_set]; exact z, rs⟩)⟩
        | _ => exact h2.elim
      | _ => exact h.elim
end

/-! ### a + b, both lists: a list made anew -/
def gAddL : D → D → Option (List D)
  | .list xs, .list ys => if xs.length + ys.length ≤ sizeLine then some (xs ++ ys) else none
  | _, _ => none
def addL (fa fb : EF) : AF := fun ρ st => (fa ρ st).bnd fun x st => (fb ρ st).bnd fun y st => .ofO (gAddL x y) st
section
variable {X : Cx} {C : Nat → Addr} {W : WX} {a b : Expr} {fa fb : EF} {pos : Pos}
theorem dl_addL (ha : DE X C W fa a) (hb : DE X C W fb b) : DL X C W (addL fa fb) (.BinOp a .Add b pos) :=
  PE.imp (pe_op op_cat ha hb) fun σ H Q ⟨w, st, O, ρ, rel, h⟩ => by
    refine ⟨w, st, O, ρ, rel, (Out.bnd h).mono fun w1 H1 x st1 g1 k1 h1 v rv => ?_⟩
    refine ⟨w1, st1, O, ρ, rel.grow g1 k1, (Out.bnd h1).mono fun w2 H2 y st2 g2 k2 h2 u ru => ?_⟩
    cases x <;> cases y <;> simp only [gAddL, EO.ofO_none] at h2 <;> first | exact h2.elim | skip
    split at h2
    · rename_i hz
      obtain ⟨p, vs, rfl, hp, zp, rp⟩ := (rv.le (g2.le X.K C)).inL
      obtain ⟨q, us, rfl, hq, zq, rq⟩ := ru.inL
      refine ⟨p, q, vs, us, rfl, rfl, k2.sub _ _ hp, k2.sub _ _ hq, by rw [rp.length, rq.length]; exact hz, fun l hl => ?_⟩
      exact raw_lst k2 (rp.append rq) (by simpa using hz) (fun q us w' H' gg kk n0 n1 n2 n3 n4 n5 => h2 w' H' gg kk q us (g1.mono q (g2.mono q n0)) n1 n2 n3 n4 n5) hl
    · exact h2.elim
end
end BF

/-! BF21: dicts as values: dict(pairs), d[k], k in d, len(d). -/
namespace BF
open PySem L2

def keyEq : D → D → Bool
  | .int a, .int b => decide (a = b)
  | .str a, .str b => decide (a = b)
  | _, _ => false
def isKey : D → Bool
  | .int _ => true
  | .str _ => true
  | _ => false
def lookD (kds : List (D × D)) (y : D) : Option D := (kds.find? fun p => keyEq p.1 y).map (·.2)
def putD (kds : List (D × D)) (y d : D) : List (D × D) := if (kds.any fun p => keyEq p.1 y) = true then kds.map (fun p => if keyEq p.1 y = true then (p.1, d) else p) else kds ++ [(y, d)]
section
variable {N : Nv}
theorem Rep.key {v : V} {y : D} (r : Rep N v y) (h : isKey y = true) : ∃ k : Key, v = kV k := by
  cases y with
  | int i => cases r.inI; exact ⟨.inl i, rfl⟩
  | str x => cases r.inS; exact ⟨.inr x, rfl⟩
  | _ => cases h
theorem keyEq_of {k k' : Key} {y y' : D} (r : Rep N (kV k) y) (r' : Rep N (kV k') y') : keyEq y y' = decide (k = k') := by
  cases k with
  | inl a =>
    cases r
    cases k' with
    | inl b => cases r'; show decide (a = b) = _; exact decide_eq_decide.mpr ⟨fun e => by rw [e], fun e => Sum.inl.inj e⟩
    | inr b => cases r'; symm; exact decide_eq_false (fun e => by cases e)
  | inr a =>
    cases r
    cases k' with
    | inl b => cases r'; symm; exact decide_eq_false (fun e => by cases e)
    | inr b => cases r'; show decide (a = b) = _; exact decide_eq_decide.mpr ⟨fun e => by rw [e], fun e => Sum.inr.inj e⟩
theorem RepK.look {k : Key} {y : D} (r : Rep N (kV k) y) : ∀ {kvs : List (Key × V)} {kds : List (D × D)}, RepK N kvs kds → (valV kvs k = none ∧ lookD kds y = none) ∨ ∃ v d, valV kvs k = some v ∧ lookD kds y = some d ∧ Rep N v d
  | _, _, .nil => .inl ⟨rfl, rfl⟩
  | (k', v) :: kvs, (kd, d) :: kds, .cons r1 r2 r3 => by
    have e := keyEq_of r1 r
    have ih := RepK.look r r3
    unfold valV lookD at ih ⊢
    rw [List.find?_cons, List.find?_cons]
    by_cases h : k' = k
    · rw [decide_eq_true h]
      rw [decide_eq_true h] at e
      rw [show keyEq (kd, d).fst y = true from e]
      exact .inr ⟨v, d, rfl, rfl, r2⟩
    · rw [decide_eq_false h]
      rw [decide_eq_false h] at e
      rw [show keyEq (kd, d).fst y = false from e]
      exact ih
theorem RepK.any {k : Key} {y : D} (r : Rep N (kV k) y) : ∀ {kvs : List (Key × V)} {kds : List (D × D)}, RepK N kvs kds → (kvs.any fun kv => decide (kv.1 = k)) = kds.any fun p => keyEq p.1 y
  | _, _, .nil => rfl
  | (k', v) :: kvs, (kd, d) :: kds, .cons r1 r2 r3 => by
    rw [List.any_cons, List.any_cons, RepK.any r r3, keyEq_of r1 r]
theorem RepK.app {kvs kvs' : List (Key × V)} {kds kds' : List (D × D)} (a : RepK N kvs kds) (b : RepK N kvs' kds') : RepK N (kvs ++ kvs') (kds ++ kds') := by
  match kvs, kds, a with
  | _, _, .nil => exact b
  | _, _, .cons r1 r2 r3 => exact .cons r1 r2 (r3.app b)
theorem RepK.put {k : Key} {y d : D} {v : V} (r : Rep N (kV k) y) (rv : Rep N v d) {kvs : List (Key × V)} {kds : List (D × D)} (h : RepK N kvs kds) : RepK N (putK kvs k v) (putD kds y d) := by
  unfold putK putD
  rw [RepK.any r h]
  split
  · have : ∀ {kvs : List (Key × V)} {kds : List (D × D)}, RepK N kvs kds → RepK N (kvs.map fun kv => if kv.1 = k then (kv.1, v) else kv) (kds.map fun p => if keyEq p.1 y = true then (p.1, d) else p) := by
      intro kvs kds h
      induction kvs generalizing kds with
      | nil => cases h; exact .nil
      | cons p kvs ih =>
        cases h with
        | @cons k' v' _ kd' d' kds r1 r2 r3 =>
          rw [List.map_cons, List.map_cons]
          have e := keyEq_of r1 r
          by_cases q : k' = k
          · rw [if_pos q, if_pos (by show keyEq kd' y = true; rw [e, decide_eq_true q])]
            exact .cons r1 rv (ih r3)
          · rw [if_neg q, if_neg (by show ¬ keyEq kd' y = true; rw [e, decide_eq_false q]; simp)]
            exact .cons r1 r2 (ih r3)
    exact this h
  · exact h.app (.cons r rv .nil)
end


/-! ### keys that are tuples of ints, texts -/
def keysEq (xs ys : List D) : Bool := PyData.eqvAll xs ys
def lookT (kds : List (D × D)) (y : D) : Option D := (kds.find? fun p => PyData.eqv p.1 y).map (·.2)
def putT (kds : List (D × D)) (y d : D) : List (D × D) := if (kds.any fun p => PyData.eqv p.1 y) = true then kds.map (fun p => if PyData.eqv p.1 y = true then (p.1, d) else p) else kds ++ [(y, d)]
section
variable {N : Nv}
theorem eqv_key {k k' : Key} {y y' : D} (r : Rep N (kV k) y) (r' : Rep N (kV k') y') : PyData.eqv y y' = decide (k = k') := by
  cases k with
  | inl a =>
    cases r
    cases k' with
    | inl b => cases r'; show (a == b) = _; rw [Bool.eq_iff_iff, beq_iff_eq, decide_eq_true_eq]; exact ⟨fun e => by rw [e], fun e => Sum.inl.inj e⟩
    | inr b => cases r'; symm; exact decide_eq_false (fun e => by cases e)
  | inr a =>
    cases r
    cases k' with
    | inl b => cases r'; symm; exact decide_eq_false (fun e => by cases e)
    | inr b => cases r'; show (a == b) = _; rw [Bool.eq_iff_iff, beq_iff_eq, decide_eq_true_eq]; exact ⟨fun e => by rw [e], fun e => Sum.inr.inj e⟩
theorem eqv_keys : ∀ {ks ks' : List Key} {ys ys' : List D}, RepA N (ks.map kV) ys → RepA N (ks'.map kV) ys' → PyData.eqvAll ys ys' = decide (ks = ks')
  | [], [], _, _, .nil, .nil => by simp [PyData.eqvAll]
  | [], _ :: _, _, _, .nil, .cons _ _ => by simp [PyData.eqvAll]
  | _ :: _, [], _, _, .cons _ _, .nil => by simp [PyData.eqvAll]
  | k :: ks, k' :: ks', _, _, .cons r1 r2, .cons q1 q2 => by
    simp only [PyData.eqvAll]
    rw [eqv_key r1 q1, eqv_keys r2 q2, ← Bool.decide_and]
    exact decide_eq_decide.mpr (by rw [List.cons.injEq])
theorem RepA.keys : ∀ {vs : List V} {ys : List D}, RepA N vs ys → ys.all isKey = true → ∃ ks : List Key, vs = ks.map kV
  | _, _, .nil, _ => ⟨[], rfl⟩
  | _, _, .cons r rs, h => by
    simp only [List.all_cons, Bool.and_eq_true] at h
    obtain ⟨k, rfl⟩ := r.key h.1
    obtain ⟨ks, rfl⟩ := rs.keys h.2
    exact ⟨k :: ks, rfl⟩
theorem RepT.look {k : List Key} {ys : List D} (r : RepA N (k.map kV) ys) : ∀ {kvs : List (List Key × V)} {kds : List (D × D)}, RepT N kvs kds → (valV kvs k = none ∧ lookT kds (.tuple ys) = none) ∨ ∃ v d, valV kvs k = some v ∧ lookT kds (.tuple ys) = some d ∧ Rep N v d
  | _, _, .nil => .inl ⟨rfl, rfl⟩
  | (k', v) :: kvs, (.tuple ks, d) :: kds, .cons r1 _ r2 r3 => by
    have e : PyData.eqv (.tuple ks) (.tuple ys) = decide (k' = k) := by simp only [PyData.eqv]; exact eqv_keys r1 r
    have ih := RepT.look r r3
    unfold valV lookT at ih ⊢
    rw [List.find?_cons, List.find?_cons]
    by_cases h : k' = k
    · rw [decide_eq_true h]
      rw [decide_eq_true h] at e
      rw [show PyData.eqv ((PyData.tuple ks, d) : D × D).fst (.tuple ys) = true from e]
      exact .inr ⟨v, d, rfl, rfl, r2⟩
    · rw [decide_eq_false h]
      rw [decide_eq_false h] at e
      rw [show PyData.eqv ((PyData.tuple ks, d) : D × D).fst (.tuple ys) = false from e]
      exact ih
end

/-! ### d[k], k in d -/
abbrev mk0 : D × D := (.none, .tuple [])
/-- the marker of a dict with tuple keys -/
def unT : List (D × D) → Option (List (D × D))
  | (.none, .tuple []) :: kds => some kds
  | _ => none
def plainK (kds : List (D × D)) : Bool := kds.all fun p => isKey p.1
/-- what d has at y: none: not told here -/
def atD (kds : List (D × D)) (y : D) : Option (Option D) := match unT kds with
  | some r => (match y with
    | .tuple ys => if ys.all isKey = true then some (lookT r y) else none
    | _ => none)
  | none => if (isKey y && plainK kds) = true then some (lookD kds y) else none
def gDGet : D → D → Option D
  | .dict kds, y => (atD kds y).bind id
  | _, _ => none
def gDIn (y : D) : D → Option Bool
  | .dict kds => (atD kds y).map Option.isSome
  | _ => none
theorem unT_eq {kds r : List (D × D)} (h : unT kds = some r) : kds = mk0 :: r := by
  unfold unT at h
  split at h
  · cases h; rfl
  · cases h
section
variable {K : PySem.W.Frag} {C : Nat → Addr}
theorem Rep.dat {w : Wd} {st : Sto} {H : Hp} {v u : V} {kds : List (D × D)} {y : D} {o : Option D} (k : Ok K C w st H) (rv : Rep (w.env K C) v (.dict kds)) (ru : Rep (w.env K C) u y) (h : atD kds y = some o) :
    ∃ a ov, v = .ref a ∧ DGet H a u ov ∧ ov.isSome = o.isSome ∧ ∀ d, o = some d → ∃ z, ov = some z ∧ Rep (w.env K C) z d := by
  unfold atD at h
  cases e : unT kds with
  | some r =>
    rw [e] at h
    have := unT_eq e
    subst this
    cases y with
    | tuple ys =>
      simp only at h
      split at h
      · rename_i hk
        cases h
        obtain ⟨b, us, rfl, hb, zb, rb⟩ := ru.inT
        obtain ⟨ks, rfl⟩ := rb.keys hk
        cases rv with
        | dT hf z rt =>
          have g : DGet H _ (.ref b) (valV _ ks) := .inr ⟨_, ks, b, .inr ⟨_, k.sub _ _ hf⟩, rfl, k.sub _ _ hb, rfl⟩
          rcases RepT.look rb rt with ⟨q1, q2⟩ | ⟨z, d, q1, q2, q3⟩
          · rw [q1] at g
            exact ⟨_, none, rfl, g, by rw [q2]; rfl, fun d hd => by rw [q2] at hd; cases hd⟩
          · rw [q1] at g
            exact ⟨_, some z, rfl, g, by rw [q2]; rfl, fun d' hd => by rw [q2] at hd; cases hd; exact ⟨z, rfl, q3⟩⟩
        | dK hf z rt => cases rt with
          | @cons ky => rename_i r1 r2 r3; cases ky <;> cases r1
      · cases h
    | _ => cases h
  | none =>
    rw [e] at h
    simp only at h
    split at h
    · rename_i hz
      cases h
      obtain ⟨hk, hp⟩ := Bool.and_eq_true_iff.mp hz
      obtain ⟨key, rfl⟩ := ru.key hk
      cases rv with
      | dK hf z rt =>
        have g := DGet.k (H := H) (k := key) (k.sub _ _ hf)
        rcases RepK.look ru rt with ⟨q1, q2⟩ | ⟨z, d, q1, q2, q3⟩
        · rw [q1] at g
          exact ⟨_, none, rfl, g, by rw [q2]; rfl, fun d hd => by rw [q2] at hd; cases hd⟩
        · rw [q1] at g
          exact ⟨_, some z, rfl, g, by rw [q2]; rfl, fun d' hd => by rw [q2] at hd; cases hd; exact ⟨z, rfl, q3⟩⟩
      | dT hf z rt => cases e
      | ob hf => simp [plainK, isKey] at hp
      | ex hf => simp [plainK, isKey] at hp
      | scr hf => simp [plainK, isKey] at hp
    · cases h
end
section
variable {X : Cx} {C : Nat → Addr} {W : WX} {k : Nat} {a b : Expr} {fa fb : EF} {pos : Pos}
theorem de_dget (g : G X C W k) (ha : DE X C W fa a) (hb : DE X C W fb b) (hs : NoSl b := by exact fun _ _ => rfl) : DE X C W (lift2 gDGet fa fb) (.Subscript a b pos) :=
  PE.imp (pe_dget (by have := g.u65; omega) ha hb hs) fun σ H Q ⟨w, st, O, ρ, rel, h⟩ => by
    refine ⟨w, st, O, ρ, rel, (Out.bnd h).mono fun w1 H1 x st1 g1 k1 h1 v rv => ?_⟩
    refine ⟨w1, st1, O, ρ, rel.grow g1 k1, (Out.bnd h1).mono fun w2 H2 y st2 g2 k2 h2 u ru => ?_⟩
    cases x with
    | dict kds =>
      simp only [gDGet] at h2
      cases e : atD kds y with
      | none => rw [e] at h2; exact h2.elim
      | some o =>
        rw [e] at h2
        obtain ⟨d, ov, rfl, hg, _, hd⟩ := (rv.le (g2.le X.K C)).dat k2 ru e
        cases o with
        | none => exact h2.elim
        | some d' =>
          obtain ⟨z, rfl, rz⟩ := hd d' rfl
          exact ⟨d, z, rfl, hg, Out.here h2 k2 _ rz⟩
    | _ => exact h2.elim
theorem dt_din (g : G X C W k) (hb : DE X C W fb b) (ha : DE X C W fa a) (h1 : behindInMarks .In a = false := by first | exact nobehind _ (by decide) (by decide) | rfl) : DT X C W (liftT gDIn fb fa) (.Compare b [.In] [a] pos) :=
  PT.imp (pt_cmp (pc_din (by have := g.u65; omega) hb ha) h1) fun σ H Q ⟨w, st, O, ρ, rel, h⟩ => by
    refine ⟨w, st, O, ρ, rel, (Out.bnd h).mono fun w1 H1 y st1 g1 k1 h1 u ru => ?_⟩
    refine ⟨w1, st1, O, ρ, rel.grow g1 k1, (Out.bnd h1).mono fun w2 H2 x st2 g2 k2 h2 v rv => ?_⟩
    cases x with
    | dict kds =>
      simp only [gDIn] at h2
      cases e : atD kds y with
      | none => rw [e] at h2; exact h2.elim
      | some o =>
        rw [e] at h2
        obtain ⟨d, ov, rfl, hg, hs, _⟩ := rv.dat k2 (ru.le (g2.le X.K C)) e
        exact ⟨d, ov, rfl, hg, _, rfl, by rw [hs]; exact Out.here h2 k2⟩
    | _ => exact h2.elim
theorem de_din (g : G X C W k) (hb : DE X C W fb b) (ha : DE X C W fa a) (h1 : behindInMarks .In a = false := by first | exact nobehind _ (by decide) (by decide) | rfl) : DE X C W (tv (liftT gDIn fb fa)) (.Compare b [.In] [a] pos) :=
  PE.imp (pe_cmp (pc_din (by have := g.u65; omega) hb ha) h1) fun σ H Q ⟨w, st, O, ρ, rel, h⟩ => by
    refine ⟨w, st, O, ρ, rel, (Out.bnd (Out.bnd h)).mono fun w1 H1 y st1 g1 k1 h1 u ru => ?_⟩
    refine ⟨w1, st1, O, ρ, rel.grow g1 k1, (Out.bnd h1).mono fun w2 H2 x st2 g2 k2 h2 v rv => ?_⟩
    cases x with
    | dict kds =>
      simp only [gDIn] at h2
      cases e : atD kds y with
      | none => rw [e] at h2; exact h2.elim
      | some o =>
        rw [e] at h2
        obtain ⟨d, ov, rfl, hg, hs, _⟩ := rv.dat k2 (ru.le (g2.le X.K C)) e
        exact ⟨d, ov, rfl, hg, by rw [hs]; exact Out.here (Out.here h2 k2) k2 _ (.bl _)⟩
    | _ => exact h2.elim
theorem dt_dnin (g : G X C W k) (hb : DE X C W fb b) (ha : DE X C W fa a) (h1 : behindInMarks .NotIn a = false := by first | exact nobehind _ (by decide) (by decide) | rfl) : DT X C W (notT (liftT gDIn fb fa)) (.Compare b [.NotIn] [a] pos) :=
  PT.imp (pt_cmp (pc_dnotin (by have := g.u65; omega) hb ha) h1) fun σ H Q ⟨w, st, O, ρ, rel, h⟩ => by
    refine ⟨w, st, O, ρ, rel, (Out.bnd (Out.bnd h)).mono fun w1 H1 y st1 g1 k1 h1 u ru => ?_⟩
    refine ⟨w1, st1, O, ρ, rel.grow g1 k1, (Out.bnd h1).mono fun w2 H2 x st2 g2 k2 h2 v rv => ?_⟩
    cases x with
    | dict kds =>
      simp only [gDIn] at h2
      cases e : atD kds y with
      | none => rw [e] at h2; exact h2.elim
      | some o =>
        rw [e] at h2
        obtain ⟨d, ov, rfl, hg, hs, _⟩ := rv.dat k2 (ru.le (g2.le X.K C)) e
        exact ⟨d, ov, rfl, hg, _, rfl, by rw [hs]; exact Out.here (Out.here h2 k2) k2⟩
    | _ => exact h2.elim
end
end BF

/-! BF22: dict(pairs), len(d), sorted(d.keys()) with int keys. -/
namespace BF
open PySem L2 PySem.Spec PyProof.Rows

/-! ### dict(pairs) -/
def pairsK : List D → Option (List (D × D))
  | [] => some []
  | .tuple [y, d] :: r => if isKey y = true then (pairsK r).map ((y, d) :: ·) else none
  | _ :: _ => none
def mergeD (ps : List (D × D)) : List (D × D) := ps.foldl (fun acc p => putD acc p.1 p.2) []
def gDictP : List D → Option D
  | [.list xs] => (pairsK xs).bind fun ps => if (mergeD ps).length ≤ sizeLine then some (.dict (mergeD ps)) else none
  | _ => none
section
variable {X : Cx} {K : PySem.W.Frag} {C : Nat → Addr}
abbrev rDictP (K : PySem.W.Frag) : List V → Hp → VK → Prop := fun xs H Q => ∃ (a : Addr) (ps : List Addr) (kvs : List (Key × V)), xs = [.ref a] ∧ SqL K H a (ps.map V.ref) ∧ Paired (fun p kv => SqT K H p [kV kv.1, kv.2]) ps kvs ∧
    ∀ p, H p = none → Q (.ref p) (upd H p (.dK (mergeK [] kvs)))
theorem pairs_rep {w : Wd} {st : Sto} {H : Hp} (k : Ok K C w st H) : ∀ {xs : List D} {vs : List V} {ps : List (D × D)}, RepA (w.env K C) vs xs → pairsK xs = some ps → ∃ (as : List Addr) (kvs : List (Key × V)), vs = as.map V.ref ∧ Paired (fun p kv => SqT K H p [kV kv.1, kv.2]) as kvs ∧ RepK (w.env K C) kvs ps
  | [], _, ps, .nil, h => by cases h; exact ⟨[], [], rfl, .nil, .nil⟩
  | x :: xs, _, ps, .cons r rs, h => by
    match x, r, h with
    | .tuple [y, d], r, h =>
      simp only [pairsK] at h
      split at h
      · rename_i hk
        obtain ⟨ps', h', rfl⟩ := Option.map_eq_some_iff.mp h
        obtain ⟨as, kvs, rfl, hp, hr⟩ := pairs_rep k rs h'
        obtain ⟨a, us, rfl, ha, za, ra⟩ := r.inT
        match us, ra with
        | _, .cons r1 (.cons r2 .nil) =>
          obtain ⟨key, rfl⟩ := r1.key hk
          exact ⟨a :: as, (key, _) :: kvs, rfl, .cons (SqT.of (k.sub _ _ ha)) hp, .cons r1 r2 hr⟩
      · cases h
    | .none, _, h | .bool _, _, h | .int _, _, h | .str _, _, h | .list _, _, h | .dict _, _, h | .tuple [], _, h | .tuple [_], _, h | .tuple (_ :: _ :: _ :: _), _, h => simp [pairsK] at h
theorem merge_rep {N : Nv} : ∀ {ps : List (D × D)} {kvs acc : List (Key × V)} {kds : List (D × D)}, RepK N kvs ps → RepK N acc kds → RepK N (mergeK acc kvs) (ps.foldl (fun acc p => putD acc p.1 p.2) kds)
  | [], _, _, _, .nil, h => h
  | (y, d) :: ps, (k, v) :: kvs, acc, kds, .cons r1 r2 r3, h => by
    have := merge_rep (ps := ps) (kvs := kvs) (acc := putK acc k v) (kds := putD kds y d) r3 (h.put r1 r2)
    exact this
theorem cs_dictP : CallA K C (rDictP K) gDictP := by
  intro w st H vs ds d Q k r e q
  match ds, e with
  | [.list xs], e =>
    obtain ⟨v, rfl, rv⟩ := r.one
    obtain ⟨a, us, rfl, ha, za, ra⟩ := rv.inL
    simp only [gDictP] at e
    obtain ⟨ps, h1, h2⟩ := Option.bind_eq_some_iff.mp e
    split at h2
    · rename_i hz
      cases h2
      obtain ⟨as, kvs, rfl, hp, hr⟩ := pairs_rep k ra h1
      refine ⟨a, as, kvs, rfl, SqL.of (k.sub _ _ ha), hp, fun p hpn => ?_⟩
      have hm := merge_rep (acc := []) (kds := []) hr .nil
      exact q _ (w.fz p (.dK (mergeK [] kvs))) _ (Grow.fz k hpn) (Ok.fz k hpn) (.dK (show upd w.F p _ p = _ from upd_same) hz (hm.le ((Grow.fz k hpn).le K C)))
    · cases h2
end

/-! ### len(d) -/
def gLenD : List D → Option D
  | [.dict kds] => if (!(kds.any fun p => !isKey p.1)) = true then some (.int kds.length) else none
  | _ => none
section
variable {K : PySem.W.Frag} {C : Nat → Addr}
theorem cs_lenD : CallA K C (fun xs H Q => ∃ a kvs, xs = [V.ref a] ∧ H a = some (.dK kvs) ∧ Q (.int kvs.length) H) gLenD := by
  intro w st H vs ds d Q k r e q
  match ds, e with
  | [.dict kds], e =>
    obtain ⟨v, rfl, rv⟩ := r.one
    simp only [gLenD] at e
    split at e
    · rename_i hz
      cases e
      cases rv with
      | dK hf z rt =>
        rename_i a kvs
        have : ∀ {kvs : List (Key × V)} {kds : List (D × D)}, RepK (w.env K C) kvs kds → kvs.length = kds.length := by
          intro kvs kds h
          induction kvs generalizing kds with
          | nil => cases h; rfl
          | cons p kvs ih => cases h with | cons r1 r2 r3 => simp [ih r3]
        exact ⟨a, kvs, rfl, k.sub _ _ hf, by rw [this rt]; exact q.id k (.int _)⟩
      | dT hf z rt => simp [isKey] at hz
      | ob hf => simp [isKey] at hz
      | ex hf => simp [isKey] at hz
      | scr hf => simp [isKey] at hz
    · cases e
end

/-! ### sorted(d.keys()), the keys ints -/
def intKeys : List (D × D) → Option (List Int)
  | [] => some []
  | (.int i, _) :: r => (intKeys r).map (i :: ·)
  | _ :: _ => none
def gSKeys : D → Option (List D)
  | .dict kds => (intKeys kds).bind fun ks => if ks.length < 64 then some ((ks.mergeSort fun a b => decide (a ≤ b)).map .int) else none
  | _ => none
def skF (f : EF) : AF := fun ρ st => (f ρ st).bnd fun d st => .ofO (gSKeys d) st
section
variable {X : Cx}
/-- a view of the keys of the dict at d -/
def keysO (p d : Addr) : HO := viewO "dict_keys" p d
def tKeysV (t : TE) : TE := fun σ H Q => t σ H fun x H1 => ∃ d kvs, x = .ref d ∧ H1 d = some (.dK kvs) ∧ ∀ p, H1 p = none → Q (.ref p) (upd H1 p (keysO p d))
theorem pe_keysV {e : Expr} {t : TE} {apos cpos : Pos} (he : PE X e t) (hbase : attributeBase e "keys" X.env (eval e X.env) = eval e X.env := by rfl) (hline : (apos.endLine == cpos.line) = true := by rfl) :
    PE X (.Call (.Attribute e "keys" apos) [] [] cpos) (tKeysV t) := by
  refine ⟨fun pins s σ H Q I h => ?_⟩
  refine wpAny_Call_method (T := "dict") (id := "dict.keys") hbase rfl hline F.plainAttrs_dict F.slot_dict_keys F.type_dict_keys (thn (he.run pins s σ H _ I h) fun u s1 ⟨x, H1, I1, rx, d, kvs, ex, hd, q⟩ => ?_)
  subst ex
  obtain rfl : u = Value.ref d := rx
  obtain ⟨z, lo, vs, rel, dd⟩ := dk_of I1.hok hd
  refine ⟨dd.typeIs, dd.mapOf.noDict, ?_⟩
  show wpAny _ _ (callWith cpos (.builtin "dict.keys") [.ref d] [] []) _ X.xe s1
  refine method_meetsIn F.slot_dict_keys F.entry_dict_keys rfl (PySem.evalArgs_none ⟨rfl, dd.typeIs, F.args_dict_keys_1 _, _, PySem.W.kdl_meets_keys (mixKind X.prog X.w) d lo, ⟨vs, dd⟩, ?_⟩)
  exact ⟨.ref s1.heap.objs.size, upd H1 s1.heap.objs.size (keysO s1.heap.objs.size d), I1.laid (t' := s1.toks) (fun b u e => Heap.get?_push_of_some _ e) (Nat.le_refl _) (viewO_ok (Heap.get?_push_size _ rfl)), rfl, q _ (I1.hok.fresh (Nat.le_refl _))⟩
def rSKeys : List V → Hp → VK → Prop := fun xs H Q => ∃ (p d : Addr) (kvs : List (Key × V)) (ks : List Int), xs = [.ref p] ∧ H p = some (keysO p d) ∧ H d = some (.dK kvs) ∧ kvs.map (·.1) = ks.map Sum.inl ∧ ks.length < 64 ∧
  ∀ (ys : List Int) (p : Addr), ys.Perm ks → ys.Pairwise (· ≤ ·) → H p = none → Q (.ref p) (upd H p (.lst (ys.map V.int)))
theorem cr_skeys (hc : X.calm = true) : CallR X (.builtin "sorted") rSKeys := by
  intro pins s σ H xs us Q I r q
  obtain ⟨p, a, kvs, ks, ex, hp, hd, hks, h64, q⟩ := q
  subst ex
  obtain ⟨u, eu, rx⟩ := vals1 r
  subst eu
  cases rx
  obtain ⟨z, lo, vs, rel, dd⟩ := dk_of I.hok hd
  obtain ⟨ep, hat⟩ := dd.dictAt
  have hkeys : vs.map (·.1) = ks.map Sum.inl := rel.keys.symm.trans hks
  have hl : vs.length = ks.length := by
    have e := congrArg List.length hkeys
    rwa [List.length_map, List.length_map] at e
  have hv : PySem.W.KdlKeysView s.heap p a := ⟨_, (I.hok p _ hp).1, rfl, rfl⟩
  refine Calls.call_function_entry kind_sorted plain_sorted entry_sorted (args_sorted1 _) ?_; unfold Builtin.«sorted»
  refine wpAny_bind (m := checkCount "sorted" 1 1 _) (wpAny_pure ?_)
  refine wpAny_bind (PySem.W.kdu_collect (A := X.A.in1) (PySem.W.kdl_keys (knd := mixKind X.prog X.w) (r := p) (kvs := vs) (ep := ep)) (I.ok.hd hc) ⟨hv, hat⟩ (by rw [hl, sizeLine_eq]; omega) fun h' tk acc hk hacc => ?_)
  have hal : acc.toList.length = ks.length := by rw [Array.length_toList, hacc.1, hl]
  have hS : IntsAre acc.toList ks := ints_each hal fun j v e => by
    obtain ⟨k, x, e1, e2⟩ := hacc.2 j v (by rw [← Array.getElem?_toList]; exact e)
    have e3 : (vs.map (·.1))[j]? = some k := by rw [List.getElem?_map, e1]; rfl
    rw [hkeys, List.getElem?_map] at e3
    obtain ⟨y, e4, e5⟩ := Option.map_eq_some_iff.mp e3
    subst e5
    rcases keyIs_shape (show keyIs (Sum.inl y) v = true from e2) with ⟨i, t, ek, ev⟩ | ⟨z, t, ek, ev⟩
    · cases ek; exact ⟨y, t, e4, ev⟩
    · cases ek
  have I1 : Inv X pins σ H { s with heap := h', toks := tk } := I.kept hk
  refine wpAny_bind (wpAny_newList ?_ (by rw [hal, sizeLine_eq]; omega))
  have hoL : (h'.push (seqObj "list" acc.toList.toArray 0)).get? h'.objs.size = some (seqObj "list" acc.toList.toArray 0) := Heap.get?_push_size _ rfl
  show wpAny _ _ _ _ _ { s with heap := h'.push (seqObj "list" acc.toList.toArray 0), toks := tk }
  refine wpAny_bind (wpAny_holding (wpAny_call_entry slot_list_sort ⟨_, hoL, rfl⟩ entry_list_sort (list_sort_tree (s := { s with heap := h'.push (seqObj "list" acc.toList.toArray 0), toks := tk }) hoL hS (by rw [hal]; exact h64) fun out ys g1 g2 g3 => ⟨_, rfl, ?_⟩) (args_list_sort _)))
  obtain ⟨e', he'⟩ := sortedHeap_at (vs := acc.toList) (out := out) hoL
  have hlen : (ys.map V.int).length ≤ sizeLine := by rw [List.length_map, g2.length_eq, sizeLine_eq]; omega
  refine wpAny_pure ⟨_, rfl, .ref h'.objs.size, upd H h'.objs.size (.lst (ys.map V.int)), I1.laid (t' := tk) (fun b u e => ?_) (Nat.le_refl _) (show ObjOk X.prog X.w _ _ _ (.lst (ys.map V.int)) from ⟨hlen, out.toList, e', vals_of_ints g1, by rw [Array.toArray_toList]; exact he'⟩), rfl, q ys _ g2 g3 (I1.hok.fresh (Nat.le_refl _))⟩
  have hb : b < h'.objs.size := Heap.lt_size e
  rw [sortedHeap_old (Nat.ne_of_lt hb) (by rw [size_push']; exact Nat.lt_succ_of_lt hb)]
  exact Heap.get?_push_of_some _ e
end
end BF

/-! BF23: sorted(d.keys()), the rule. -/
namespace BF
open PySem L2
theorem intKeys_rep {N : Nv} : ∀ {kds : List (D × D)} {kvs : List (Key × V)} {ks : List Int}, RepK N kvs kds → intKeys kds = some ks → kvs.map (·.1) = ks.map Sum.inl
  | [], _, ks, .nil, h => by cases h; rfl
  | (y, d) :: kds, (k, v) :: kvs, ks, .cons r1 r2 r3, h => by
    match y, r1, h with
    | .int i, r1, h =>
      simp only [intKeys] at h
      obtain ⟨ks', h', rfl⟩ := Option.map_eq_some_iff.mp h
      cases k with
      | inl j =>
        cases r1
        rw [List.map_cons, List.map_cons, intKeys_rep r3 h']
      | inr x => cases r1
    | .none, _, h | .bool _, _, h | .str _, _, h | .list _, _, h | .dict _, _, h | .tuple _, _, h => simp [intKeys] at h
theorem intKeys_plain : ∀ {kds : List (D × D)} {ks : List Int}, intKeys kds = some ks → kds.all (fun p => isKey p.1) = true
  | [], _, _ => rfl
  | (.int i, _) :: r, ks, h => by
    simp only [intKeys] at h
    obtain ⟨ks', h', rfl⟩ := Option.map_eq_some_iff.mp h
    rw [List.all_cons, intKeys_plain h']; rfl
  | (.none, _) :: _, _, h | (.bool _, _) :: _, _, h | (.str _, _) :: _, _, h | (.list _, _) :: _, _, h | (.dict _, _) :: _, _, h | (.tuple _, _) :: _, _, h => by simp [intKeys] at h
section
variable {X : Cx} {C : Nat → Addr} {W : WX} {k : Nat} {e : Expr} {f : EF} {p apos cpos pos : Pos}
theorem dl_skeys (g : G X C W k) (ha : DE X C W f e) (hm : X.mg "sorted" = none) (hg : Gl X "sorted" := by rfl) (hbase : attributeBase e "keys" X.env (eval e X.env) = eval e X.env := by rfl) (hline : (apos.endLine == cpos.line) = true := by rfl)
    (h1 : starEach [.Call (.Attribute e "keys" apos) [] [] cpos] X.env = (false, eval (.Call (.Attribute e "keys" apos) [] [] cpos) X.env) :: starEach [] X.env := by rfl) (h2 : (backTo pos (starEach [] X.env)).any (·.1) = false := by rfl) :
    DL X C W (skF f) (.Call (.Name "sorted" p) [.Call (.Attribute e "keys" apos) [] [] cpos] [] pos) :=
  PE.imp (pe_callB (cr_skeys g.calm) hg hm bo_sorted (pa_cons (pe_keysV ha hbase hline) pa_nil h1) (by decide) (by decide) h1 h2) fun σ H Q ⟨w, st, O, ρ, rel, h⟩ => by
    refine ⟨w, st, O, ρ, rel, (Out.bnd h).mono fun w1 H1 d st1 g1 k1 h1 v rv => ?_⟩
    cases d with
    | dict kds =>
      simp only [gSKeys] at h1
      cases e1 : intKeys kds with
      | none => rw [e1] at h1; exact h1.elim
      | some ks =>
        rw [e1] at h1
        simp only [Option.bind_some] at h1
        split at h1
        · rename_i hz
          have hp := intKeys_plain e1
          cases rv with
          | @dK a kvs _ hf z rt =>
            refine ⟨_, _, rfl, k1.sub _ _ hf, fun q hq => ⟨q, _, _, ks, rfl, upd_same, by rw [upd_ne (ne_of_none (k1.sub _ _ hf) hq)]; exact k1.sub _ _ hf, intKeys_rep rt e1, hz, fun ys l pm pw hl => ?_⟩⟩
            have em : ys = ks.mergeSort fun a b => decide (a ≤ b) := by
              refine List.Perm.eq_of_pairwise (le := fun a b : Int => a ≤ b) (fun a b _ _ h h' => Int.le_antisymm h h') pw ?_ (pm.trans (List.mergeSort_perm _ _).symm)
              exact (List.pairwise_mergeSort (le := fun a b : Int => decide (a ≤ b)) (fun a b c h h' => by simp only [decide_eq_true_eq] at *; omega) (fun a b => by simp only [Bool.or_eq_true, decide_eq_true_eq]; omega) ks).imp fun h => by simpa using h
            have k2 := Ok.raw k1 (o := keysO q a) hq
            have ga := Grow.raw k1 (o := keysO q a) hq
            subst em
            refine raw_lst k2 (RepA.ofInts (ks.mergeSort fun a b => decide (a ≤ b))) (by rw [List.length_map, List.length_mergeSort, sizeLine_eq]; omega) (fun l us w' H' gg kk n0 n1 n2 n3 n4 n5 => ?_) hl
            exact h1 w' H' (ga.trans gg) kk l us (g1.mono l (ga.mono l n0)) n1 n2 n3 n4 n5
          | dT hf z rt => simp [isKey] at hp
          | ob hf => simp [isKey] at hp
          | ex hf => simp [isKey] at hp
          | scr hf => simp [isKey] at hp
        · exact h1.elim
    | _ => exact h1.elim
end
end BF

/-! BF24: rows = [[] for k in ..]: a list of lists that only we know. -/
namespace BF
open PySem L2
/-- what lies aside from a world, as a row of empty lists -/
def Aside (w : Wd) (H : Hp) (bs : List Addr) : Prop := ∀ b ∈ bs, H b = some (.lst []) ∧ w.F b = none ∧ ¬ w.In b
theorem Aside.grow {w w' : Wd} {H H' : Hp} {bs : List Addr} {K : PySem.W.Frag} {C : Nat → Addr} {st : Sto} (h : Aside w H bs) (g : Grow w H w' H') (k : Ok K C w' st H') : Aside w' H' bs := fun b hb => g.apart k (h b hb).1 (h b hb).2.1 (h b hb).2.2
section
variable (K : PySem.W.Frag) (C : Nat → Addr) (W : WX)
def tL2 (f : AF) : TE := fun σ H Q => ∃ w st O ρ, Rel K C w st O ρ σ H ∧ Out K C W w σ H (f ρ st) fun w' H' ds st' => ∀ (a : Addr) (bs : List Addr) (w2 : Wd) (H2 : Hp), Grow w' H' w2 H2 → Ok K C w2 st' H2 → H' a = none → w2.F a = none → ¬ w2.In a → a ∉ bs → bs.Nodup →
  (∀ b ∈ bs, H' b = none) → Aside w2 H2 bs → H2 a = some (.lst (bs.map V.ref)) → bs.length = ds.length → Q (.ref a) H2
end
theorem none1 {K : PySem.W.Frag} {C : Nat → Addr} {w : Wd} {st : Sto} {H : Hp} (k1 : Ok K C w st H) {p : Addr} (hp : H p = none) : w.F p = none ∧ ¬ w.In p := by
  refine ⟨?_, fun q => ?_⟩
  · cases e : w.F p with
    | none => rfl
    | some u => rw [k1.sub p u e] at hp; cases hp
  · obtain ⟨u, hu⟩ := k1.tracked q
    rw [hp] at hu; cases hu
theorem l2_imp {K : PySem.W.Frag} {C : Nat → Addr} {W : WX} {fi : AF} {j : Nat} {σ : St} {H : Hp} {Q : VK} (h : tL2 K C W fi σ H Q) : tLc (tI K C W fi) (tG K C (.nm j)) (tT K C WF yesT) (tLst tNil) [j] σ H Q := by
  obtain ⟨w, st, O, ρ, rel, h⟩ := h
  refine ⟨w, st, O, ρ, rel, Out.mono h fun w1 H1 ds st1 g1 k1 h1 hz J hJ D hD => ?_⟩
  have rel1 := (rel.grow g1 k1).wipe [j]
  refine ⟨fun i m H' => m = ds.length - i ∧ i ≤ ds.length ∧ ∃ (w' : Wd) (bs : List Addr), bs.length = i ∧ Grow w1 H1 w' H' ∧ Ok K C w' st1 H' ∧ w'.F D = none ∧ ¬ w'.In D ∧ H' D = some (.lst (bs.map V.ref)) ∧ bs.Nodup ∧ D ∉ bs ∧ (∀ b ∈ bs, H1 b = none) ∧ Aside w' H' bs,
    ⟨_, rfl, Nat.zero_le _, w1, [], rfl, Grow.raw k1 hD, Ok.raw k1 hD, (none1 k1 hD).1, (none1 k1 hD).2, upd_same, .nil, by simp, by simp, by intro b hb; cases hb⟩, ?_⟩
  rintro i m H' ⟨rfl, hi, w', bs, b1, gg, kk, f1, f2, f3, b3, b4, b6, b5⟩
  have J1 := hJ w' st1 H' (gg.le K C) kk
  by_cases hlt : i < ds.length
  · refine .inr ?_
    have hd : ds[i]? = some ds[i] := by simp [hlt]
    refine ⟨(J1.1 i _ hd).1, fun H' => ∃ (w' : Wd) (bs : List Addr), bs.length = i + 1 ∧ Grow w1 H1 w' H' ∧ Ok K C w' st1 H' ∧ w'.F D = none ∧ ¬ w'.In D ∧ H' D = some (.lst (bs.map V.ref)) ∧ bs.Nodup ∧ D ∉ bs ∧ (∀ b ∈ bs, H1 b = none) ∧ Aside w' H' bs, fun H2 n => ⟨ds.length - (i + 1), by omega, rfl, by omega, n⟩, fun x H3 y => ?_⟩
    obtain ⟨rfl, wk, gk, ok', rx⟩ := (J1.1 i _ hd).2 x H3 y
    obtain ⟨f3, f1, f2⟩ := gk.apart ok' f3 f1 f2
    have gg := gg.trans gk
    have b5 := b5.grow gk ok'
    have relW := rel1.grow gg ok'
    clear kk
    refine ⟨wk, st1, _, _, ds[i], relW, rx, ?_⟩
    intro O' σ' hw hO rel'
    refine ⟨by rw [hw [j] (by simp [Tgt.js]), wipe_idem], wk, st1, O', _, rel', ?_⟩
    intro w5 H5 g5 k5
    show (if true = true then _ else _)
    rw [if_pos rfl]
    obtain ⟨e3, e1, e2⟩ := g5.apart k5 f3 f1 f2
    have c5 := b5.grow g5 k5
    have gg5 := gg.trans g5
    refine ⟨Nat.zero_le _, fun p hp => ⟨bs.map V.ref, ?_, ?_, ?_⟩⟩
    · rw [upd_ne (ne_of_none e3 hp)]; exact e3
    · rw [List.length_map]; omega
    · have hpD : p ≠ D := fun e => by rw [e, e3] at hp; cases hp
      have hp1 : H1 p = none := gg5.mono p hp
      have hpb : p ∉ bs := fun hm => by rw [(c5 p hm).1] at hp; cases hp
      refine ⟨w5, bs ++ [p], by simp [b1], (gg5.trans (Grow.raw k5 hp)).upd hD, (Ok.raw k5 hp).upd e1 e2, e1, e2, by rw [upd_same, List.map_append]; rfl, ?_, ?_, ?_, fun b hb => ?_⟩
      · rw [List.nodup_append]
        refine ⟨b3, by simp, fun a ha b hb => ?_⟩
        rw [List.mem_singleton.mp hb]
        exact fun e => hpb (by rw [← e]; exact ha)
      · intro hm
        rcases List.mem_append.mp hm with hm | hm
        · exact b4 hm
        · exact hpD (List.mem_singleton.mp hm).symm
      · intro b hb
        rcases List.mem_append.mp hb with hb | hb
        · exact b6 b hb
        · rw [List.mem_singleton.mp hb]; exact hp1
      · rcases List.mem_append.mp hb with hb | hb
        · have := c5 b hb
          refine ⟨?_, this.2⟩
          rw [upd_ne (fun e => b4 (by rw [← e]; exact hb)), upd_ne (ne_of_none this.1 hp)]
          exact this.1
        · rw [List.mem_singleton.mp hb]
          exact ⟨by rw [upd_ne hpD, upd_same], none1 k5 hp⟩
  · have e : i = ds.length := by omega
    exact .inl ⟨J1.2 _ (by omega), h1 D bs w' H' gg kk hD f1 f2 b4 b3 b6 b5 f3 (by omega)⟩
end BF

/-! BF25: rows of lists as a slot: made, a row appended to, known from here on. -/
namespace BF
open PySem L2
theorem RelS.setOwnN {K : PySem.W.Frag} {w0 w w1 : Wd} {H0 H H1 : Hp} {N0 : Nv} {st st1 : Sto} {O : Nat → List Addr} {ρ : Slots} {σ : St} (r : RelS K C w0 H0 N0 w st O ρ σ H) {i : Nat} {fp : List Addr} {v : V} (hi : i < ρ.length)
    (g : Grow w H w1 H1) (k : Ok K C w1 st1 H1) (h0 : ∀ p ∈ fp, H p = none) (hf : ∀ p ∈ fp, w1.F p = none ∧ ¬ w1.In p) {s : Slot} (hs : SlotOk (w1.env K C) H1 fp (some v) s) :
    RelS K C w0 H0 N0 w1 st1 (fun j => if j = i then fp else O j) (ρ.set i s) (σ.set i (some v)) H1 := by
  have r1 := r.rel.grow g k
  have np : ∀ j, ∀ p ∈ fp, p ∉ O j := fun j p hp hj => by
    obtain ⟨u, hu⟩ := r.rel.there hj
    rw [h0 p hp] at hu; cases hu
  refine ⟨⟨k, by simpa using r.rel.len, fun j s' e => ?_, fun j hj => ?_, fun j a ha => ?_, fun j l a h1 h2 => ?_⟩, r.grow.trans g, fun j a ha => ?_, r.le.trans (g.le K C)⟩
  · by_cases hj : j = i
    · subst hj
      rw [List.getElem?_set_self hi] at e
      cases e
      exact ⟨_, by rw [List.getElem?_set_self (by rw [r.rel.len]; exact hi)], by rw [if_pos rfl]; exact hs⟩
    · rw [List.getElem?_set_ne (Ne.symm hj)] at e
      obtain ⟨v, e1, h1⟩ := r1.slot j s' e
      exact ⟨v, by rw [List.getElem?_set_ne (Ne.symm hj)]; exact e1, by rw [if_neg hj]; exact h1⟩
  · rw [List.length_set] at hj
    rw [if_neg (by omega)]
    exact r.rel.out j hj
  · by_cases hj : j = i
    · subst hj
      rw [if_pos rfl] at ha
      exact hf a ha
    · rw [if_neg hj] at ha; exact r1.ofz j a ha
  · by_cases hj : j = i
    · by_cases hl : l = i
      · rw [hj, hl]
      · rw [if_pos hj] at h1
        rw [if_neg hl] at h2
        exact (np l a h1 h2).elim
    · rw [if_neg hj] at h1
      by_cases hl : l = i
      · rw [if_pos hl] at h2
        exact (np j a h2 h1).elim
      · rw [if_neg hl] at h2
        exact r.rel.dj j l a h1 h2
  · by_cases hj : j = i
    · rw [if_pos hj] at ha
      exact r.grow.mono a (h0 a ha)
    · rw [if_neg hj] at ha; exact r.new j a ha
section
variable {X : Cx} {C : Nat → Addr} {W : WX} {k : Nat} {e tg iter : Expr} {pos : Pos} {fa fe : EF} {fi : AF} {t : Tgt}
def own2S (i : Nat) (fi : AF) : SF := fun ρ st => SO.ofE (fi ρ st) ρ fun ds st => if i < ρ.length ∧ ds.length ≤ 16777216 then .nx (ρ.set i (.own2 (ds.map fun _ => []))) st else .bad
theorem own2_imp {K : PySem.W.Frag} {w0 : Wd} {H0 : Hp} {N0 : Nv} {i : Nat} {D : Ends} {σ : St} {H : Hp} (h : tS K C W w0 H0 N0 (own2S i fi) D σ H) : tAsg (tL2 K C W fi) (gName i) D σ H := by
  obtain ⟨w, st, O, ρ, rel, h⟩ := h
  refine ⟨w, st, O, ρ, rel.rel, (ofE_imp h rel).mono fun w1 H1 ds st1 g1 k1 ⟨r1, h1⟩ a bs w2 H2 g2 k2 ha f1 f2 hab hnd hb as h3 hl => ?_⟩
  by_cases hi : i < ρ.length ∧ ds.length ≤ 16777216
  · rw [if_pos hi] at h1
    have z0 := size_line
    refine h1 w2 _ _ H2 (r1.setOwnN (fp := a :: bs) hi.1 g2 k2 (fun p hp => ?_) (fun p hp => ?_) ⟨a, bs, rfl, rfl, h3, by rw [List.length_map]; exact hl, by rw [List.length_map]; omega, hnd, hab, fun j b ds' e1 e2 => ?_⟩)
    · rcases List.mem_cons.mp hp with q | q
      · rw [q]; exact ha
      · exact hb p q
    · rcases List.mem_cons.mp hp with q | q
      · rw [q]; exact ⟨f1, f2⟩
      · exact (as p q).2
    · rw [List.getElem?_map] at e2
      cases e3 : ds[j]? with
      | none => rw [e3] at e2; cases e2
      | some d =>
        rw [e3] at e2
        cases e2
        exact ⟨[], (as b (List.mem_of_getElem? e1)).1, Nat.zero_le _, .nil⟩
  · rw [if_neg hi] at h1; exact h1.elim
theorem ds_own2 (i j : Nat) {y : Str} {py spos lp : Pos} {scope : Scope} {own : List (Str × Nat)} (g : G X C W k) (hy : X.N[i]? = some y) (hyl : X.env.scope.names.lookup y = some .local)
    (hsw : swapsWith (.ListComp (.List [] lp) [⟨tg, iter, [], 0⟩] scope pos) (some (.Name y py)) spos.line X.env = pure true) (hj : own.map (·.2) = [j]) (hi : DI X C W fi tg iter) (ok : blkC X.N X.env.scope scope own = true)
    (hg : ∀ (s : Shared) (H : Hp) (D : Addr) (cl : List (Str × Addr)) (fp : List Addr), DG (X.blk s H scope (compEnvC scope cl D X.env) fp) C (.nm j) tg)
    (hs : ∀ x, foldedSetIterable iter X.env x = pure x := by intro _; rfl) : DS X C W (own2S i fi) (.Assign [.Name y py] (.ListComp (.List [] lp) [⟨tg, iter, [], 0⟩] scope pos) spos) :=
  fun w0 H0 N0 => PS.imp (ps_setLc (g := tG X.K C (.nm j)) (tt := tT X.K C WF yesT) (te := tLst tNil) g.calm g.nd hy hyl hsw hi (blkOk_by ok) hg (fun s H D cl fp => dts_nil) (fun s H D cl fp => pe_lst pa_nil) hs) fun D σ H h => by
    rw [hj]; exact l2_imp (own2_imp h)
end
end BF

/-! BF26: rows of lists: rows[i].append(d); known from here on. -/
namespace BF
open PySem L2
/-! ### known from here on -/
def Wd.fzs (w : Wd) (H : Hp) (fp : List Addr) : Wd := ⟨fun a => if a ∈ fp then H a else w.F a, w.P⟩
section
variable {K : PySem.W.Frag} {C : Nat → Addr} {w w0 : Wd} {st : Sto} {H H0 : Hp} {fp : List Addr}
theorem le_fzs (h : ∀ a ∈ fp, w.F a = none) : (w.env K C).le ((w.fzs H fp).env K C) := ⟨rfl, rfl, fun a u e => by
  show (if a ∈ fp then H a else w.F a) = some u
  have e' : w.F a = some u := e
  rw [if_neg (fun q => by rw [h a q] at e'; cases e')]; exact e', fun _ _ h => h⟩
theorem Ok.fzs (k : Ok K C w st H) (h : ∀ a ∈ fp, w.F a = none ∧ ¬ w.In a) : Ok K C (w.fzs H fp) st H where
  sub := fun a u e => by
    have e' : (if a ∈ fp then H a else w.F a) = some u := e
    by_cases q : a ∈ fp
    · rw [if_pos q] at e'; exact e'
    · rw [if_neg q] at e'; exact k.sub a u e'
  dj := fun a q => by
    show (if a ∈ fp then H a else w.F a) = none
    rw [if_neg (fun z => (h a z).2 q)]; exact k.dj a q
  nd := k.nd
  ndd := k.ndd
  len := k.len
  obs := fun i fq ob h1 h2 => (k.obs i fq ob h1 h2).le (le_fzs fun a ha => (h a ha).1) fun _ _ _ q => q
theorem Grow.fzs (g : Grow w0 H0 w H) (h : ∀ a ∈ fp, w.F a = none) (h0 : ∀ a ∈ fp, H0 a = none) : Grow w0 H0 (w.fzs H fp) H where
  ext := fun a u e => by
    have e' := g.ext a u e
    show (if a ∈ fp then H a else w.F a) = some u
    rw [if_neg (fun q => by rw [h a q] at e'; cases e')]; exact e'
  newF := fun a u e => by
    have e' : (if a ∈ fp then H a else w.F a) = some u := e
    by_cases q : a ∈ fp
    · exact .inr (.inl (h0 a q))
    · rw [if_neg q] at e'; exact g.newF a u e'
  newP := g.newP
  keep := g.keep
  mono := g.mono
  pre := g.pre
end
theorem repA_rows {N : Nv} : ∀ {bs : List Addr} {dss : List (List D)}, bs.length = dss.length → (∀ (i : Nat) (b : Addr) (ds : List D), bs[i]? = some b → dss[i]? = some ds → Rep N (.ref b) (.list ds)) → RepA N (bs.map V.ref) (dss.map PyData.list)
  | [], [], _, _ => .nil
  | [], _ :: _, h, _ => by cases h
  | _ :: _, [], h, _ => by cases h
  | b :: bs, ds :: dss, h, k => .cons (k 0 b ds rfl rfl) (repA_rows (by simpa using h) fun i b' ds' h1 h2 => k (i + 1) b' ds' (by simpa using h1) (by simpa using h2))
def ice2S (i : Nat) : SF := fun ρ st => match ρ[i]? with
  | some (.own2 dss) => .nx (ρ.set i (.val (.list (dss.map .list)))) st
  | _ => .bad
section
variable {K : PySem.W.Frag} {C : Nat → Addr} {w0 w : Wd} {H0 H : Hp} {N0 : Nv} {st : Sto} {O : Nat → List Addr} {ρ : Slots} {σ : St}
theorem RelS.ice2 (r : RelS K C w0 H0 N0 w st O ρ σ H) {i : Nat} {dss : List (List D)} (e : ρ[i]? = some (.own2 dss)) : ∃ w' O', RelS K C w0 H0 N0 w' st O' (ρ.set i (.val (.list (dss.map .list)))) σ H := by
  obtain ⟨v, ev, a, bs, h1, h2, h3, h4, h5, h6, h7, h8⟩ := r.rel.slot i _ e
  subst h2
  have z := r.rel.ofz i
  have hf : ∀ b ∈ O i, w.F b = none ∧ ¬ w.In b := fun b hb => z b hb
  have le' : (w.env K C).le ((w.fzs H (O i)).env K C) := le_fzs fun b hb => (hf b hb).1
  have kk := r.rel.ok.fzs hf
  have gg : Grow w0 H0 (w.fzs H (O i)) H := r.grow.fzs (fun b hb => (hf b hb).1) fun b hb => r.new i b hb
  have F' : ∀ b ∈ O i, (w.fzs H (O i)).F b = H b := fun b hb => if_pos hb
  have same : σ.set i (some (.ref a)) = σ := by
    apply List.ext_getElem?
    intro j
    by_cases hj : i = j
    · subst hj
      rw [List.getElem?_set_self (List.getElem?_eq_some_iff.mp ev).1, ev]
    · rw [List.getElem?_set_ne hj]
  refine ⟨w.fzs H (O i), clr O i, ⟨kk, by simpa using r.rel.len, fun j s' ej => ?_, fun j hj => ?_, fun j b hb => ?_, fun j l b h1 h2 => r.rel.dj j l b (clr_sub h1) (clr_sub h2)⟩, gg, fun j b hb => r.new j b (clr_sub hb), r.le.trans le'⟩
  · by_cases hj : j = i
    · subst hj
      rw [List.getElem?_set_self (List.getElem?_eq_some_iff.mp e).1] at ej
      cases ej
      refine ⟨some (.ref a), ev, ?_⟩
      unfold clr
      rw [if_pos rfl]
      refine ⟨rfl, _, rfl, .lst (vs := bs.map V.ref) ?_ (by rw [List.length_map]; exact h5) (repA_rows h4 fun m b ds e1 e2 => ?_)⟩
      · show (w.fzs H (O j)).F a = _
        rw [F' a (by rw [h1]; simp)]; exact h3
      · obtain ⟨vs, q1, q2, q3⟩ := h8 m b ds e1 e2
        refine .lst (vs := vs) ?_ q2 (q3.le le')
        show (w.fzs H (O j)).F b = _
        rw [F' b (by rw [h1]; simp [List.mem_of_getElem? e1])]; exact q1
    · rw [List.getElem?_set_ne (Ne.symm hj)] at ej
      obtain ⟨v', e1, h1⟩ := r.rel.slot j s' ej
      refine ⟨v', e1, ?_⟩
      unfold clr
      rw [if_neg hj]
      exact h1.le le' fun _ _ _ h => h
  · unfold clr
    split
    · rfl
    · exact r.rel.out j (by simpa using hj)
  · have hb' : b ∈ O j ∧ j ≠ i := by
      unfold clr at hb
      split at hb
      · simp at hb
      · rename_i q; exact ⟨hb, q⟩
    refine ⟨?_, (r.rel.ofz j b hb'.1).2⟩
    show (if b ∈ O i then H b else w.F b) = none
    rw [if_neg (fun q => hb'.2 (r.rel.dj j i b hb'.1 q))]
    exact (r.rel.ofz j b hb'.1).1
end
section
variable {X : Cx} {C : Nat → Addr} {W : WX} {rest : List Stmt} {f : SF}
theorem dss_ice2 (i : Nat) (h : DSs X C W f rest) : DSs X C W (seqS (ice2S i) f) rest := fun w0 H0 N0 => PSs.imp (h w0 H0 N0) fun D σ H ⟨w, st, O, ρ, rel, h⟩ => by
  unfold seqS ice2S at h
  cases e : ρ[i]? with
  | none => rw [e] at h; exact h.elim
  | some s =>
    rw [e] at h
    cases s with
    | own2 dss =>
      obtain ⟨w', O', r'⟩ := rel.ice2 e
      exact ⟨w', st, O', _, r', h⟩
    | _ => exact h.elim
end

/-! ### rows[i].append(d) -/
def app2S (i : Nat) (fi fa : EF) : SF := fun ρ st => match ρ[i]? with
  | some (.own2 dss) => SO.ofE (fi ρ st) ρ fun y st => match y with
    | .int j => (match ixN dss.length j with
      | some m => SO.ofE (fa ρ st) ρ fun d st => if (dss.getD m []).length < 16777216 then .nx (ρ.set i (.own2 (dss.set m (dss.getD m [] ++ [d])))) st else .bad
      | none => .bad)
    | _ => .bad
  | _ => .bad
section
variable {K : PySem.W.Frag} {C : Nat → Addr} {w0 w : Wd} {H0 H : Hp} {N0 : Nv} {st : Sto} {O : Nat → List Addr} {ρ : Slots} {σ : St}
theorem RelS.upRow (r : RelS K C w0 H0 N0 w st O ρ σ H) {i m : Nat} {a b : Addr} {bs : List Addr} {dss : List (List D)} {ds' : List D} {vs' : List V} (e : ρ[i]? = some (.own2 dss)) (hO : O i = a :: bs) (hσ : σ[i]? = some (some (.ref a)))
    (hs : SlotOk (w.env K C) H (a :: bs) (some (.ref a)) (.own2 dss)) (hb : bs[m]? = some b) (z : ds'.length ≤ sizeLine) (rv : RepA (w.env K C) vs' ds') : RelS K C w0 H0 N0 w st O (ρ.set i (.own2 (dss.set m ds'))) σ (L2.upd H b (.lst vs')) := by
  have hbm : b ∈ bs := List.mem_of_getElem? hb
  have hp : b ∈ O i := by rw [hO]; simp [hbm]
  obtain ⟨z1, z2⟩ := r.rel.ofz i b hp
  have hi := (List.getElem?_eq_some_iff.mp e).1
  refine ⟨⟨r.rel.ok.upd z1 z2, by simpa using r.rel.len, fun j s2 ej => ?_, fun j hj => r.rel.out j (by simpa using hj), r.rel.ofz, r.rel.dj⟩, r.grow.upd (r.new i b hp), r.new, r.le⟩
  by_cases hj : j = i
  · subst hj
    rw [List.getElem?_set_self hi] at ej
    cases ej
    obtain ⟨a', bs', q1, q2, q3, q4, q5, q6, q7, q8⟩ := hs
    cases q1
    refine ⟨_, hσ, ?_⟩
    rw [hO]
    refine ⟨a, bs, rfl, rfl, ?_, by rw [List.length_set]; exact q4, by rw [List.length_set]; exact q5, q6, q7, fun k c ds e1 e2 => ?_⟩
    · rw [upd_ne (fun q => q7 (by rw [q]; exact hbm))]; exact q3
    · by_cases hk : k = m
      · subst hk
        rw [e1] at hb
        cases hb
        have hk : k < dss.length := by rw [← q4]; exact (List.getElem?_eq_some_iff.mp e1).1
        rw [List.getElem?_set_self hk] at e2
        cases e2
        exact ⟨vs', upd_same, z, rv⟩
      · rw [List.getElem?_set_ne (Ne.symm hk)] at e2
        obtain ⟨vs, u1, u2, u3⟩ := q8 k c ds e1 e2
        refine ⟨vs, ?_, u2, u3⟩
        rw [upd_ne (fun q => hk ?_)]
        · exact u1
        · have l1 := (List.getElem?_eq_some_iff.mp e1).1
          exact (List.getElem?_inj l1 q6).mp (by rw [e1, hb, q])
  · rw [List.getElem?_set_ne (Ne.symm hj)] at ej
    obtain ⟨v, e1, h1⟩ := r.rel.slot j s2 ej
    exact ⟨v, e1, h1.le (.refl _) fun c hc u hu => by rw [upd_ne (fun q => hj (r.rel.dj j i c hc (by rw [q]; exact hp)))]; exact hu⟩
end
section
variable {X : Cx} {C : Nat → Addr} {W : WX} {a b : Expr} {fa fi : EF} {x : Str} {p p2 apos cpos pos : Pos}
theorem ds_app2 (i : Nat) (hi : DE X C W fi b) (ha : DE X C W fa a) (hN : X.N[i]? = some x := by rfl) (hv : Vis X.env.scope x := by first | exact Or.inl rfl | exact Or.inr (Or.inl rfl) | exact Or.inr (Or.inr rfl))
    (hd : (x == ("__debug__" : Str)) = false := by decide) (hcd : (x == ("__classdict__" : Str)) = false := by decide) (hix : PlainIx b := by exact fun _ _ => rfl)
    (hbase : attributeBase (.Subscript (.Name x p) b p2) "append" X.env (eval (.Subscript (.Name x p) b p2) X.env) = eval (.Subscript (.Name x p) b p2) X.env := by rfl)
    (hfew : ((backTo cpos (starEach [a] X.env)).all (fun x => !x.1) && (backToKw cpos (keywordEach [] X.env)).all (fun x => x.1.isSome)
      && decide (([a] : List Expr).length + ([] : List Keyword).length + (if ([] : List Keyword).isEmpty then 0 else 1) < 30)) = true := by rfl)
    (hline : (apos.endLine == cpos.line) = true := by rfl) (hs : starEach [a] X.env = (false, eval a X.env) :: starEach [] X.env := by rfl) (hplain : (backTo cpos (starEach [] X.env)).any (·.1) = false := by rfl)
    (hsw : swapsWith (.Call (.Attribute (.Subscript (.Name x p) b p2) "append" apos) [a] [] cpos) none pos.line X.env = pure false := by rfl) :
    DS X C W (app2S i fi fa) (.Expr (.Call (.Attribute (.Subscript (.Name x p) b p2) "append" apos) [a] [] cpos) pos) := fun w0 H0 N0 =>
  PS.imp (ps_expr (pe_bm PySem.F.plainAttrs_list PySem.F.slot_list_append PySem.F.type_list_append mt_append (pe_ix ix_seq (pv i hN hv hd hcd) hi hix) (pa_cons ha pa_nil hs) hbase hfew hline hs hplain) hsw) fun Dn σ H ⟨w, st, O, ρ, rel, h⟩ => by
    unfold app2S at h
    cases e : ρ[i]? with
    | none => rw [e] at h; exact h.elim
    | some s =>
      simp only [e] at h
      cases s with
      | own2 dss =>
        have sl := rel.rel.slot i _ e
        obtain ⟨v, ev, q, bs, h1, h2, h3, h4, h5, h6, h7, h8⟩ := sl
        subst h2
        have hq : q ∈ O i := by rw [h1]; simp
        refine ⟨_, ev, w, st, O, ρ, rel.rel, (ofE_imp h rel).mono fun w1 H1 y st1 g1 k1 ⟨r1, h1'⟩ u ru => ?_⟩
        obtain ⟨d3, d1, d2⟩ := g1.apart k1 h3 (rel.rel.ofz i q hq).1 (rel.rel.ofz i q hq).2
        cases y with
        | int j =>
          cases ru.inI
          simp only at h1'
          cases e2 : ixN dss.length j with
          | none =>
            simp only [e2] at h1'
            exact h1'.elim
          | some m =>
            simp only [e2] at h1'
            have hm : m < bs.length := by rw [h4]; exact (ixN_seq e2).2.1
            refine .inl ⟨q, bs.map V.ref, j, .ref bs[m], rfl, rfl, SqL.of d3, ?_, ?_⟩
            · unfold L2.atI
              rw [List.length_map, h4, e2]
              simp [hm]
            · have hb : bs[m]? = some bs[m] := by simp [hm]
              have hds : dss[m]? = some (dss.getD m []) := by
                rw [List.getD_eq_getElem?_getD]
                have : m < dss.length := by rw [← h4]; exact hm
                simp [this]
              obtain ⟨vs0, o1, o2, o3⟩ := h8 m bs[m] _ hb hds
              have hbO : bs[m] ∈ O i := by rw [h1]; simp
              obtain ⟨f3, f1, f2⟩ := g1.apart k1 o1 (rel.rel.ofz i _ hbO).1 (rel.rel.ofz i _ hbO).2
              refine ⟨.inl ⟨rfl, vs0, SqL.of f3⟩, w1, st1, O, ρ, r1.rel, (ofE_imp h1' r1).mono fun w2 H2 d st2 g2 k2 ⟨r2, h2'⟩ v rv => ?_⟩
              by_cases hz : (dss.getD m []).length < 16777216
              · rw [if_pos hz] at h2'
                have z0 := size_line
                obtain ⟨v', ev', q', bs', y1, y2, y3, y4, y5, y6, y7, y8⟩ := r2.rel.slot i _ e
                cases y2
                rw [h1] at y1
                cases y1
                obtain ⟨vs2, x1, x2, x3⟩ := y8 m bs[m] _ hb hds
                refine ⟨bs[m], vs2, v, rfl, rfl, x1, by rw [x3.length]; omega, ?_⟩
                exact h2' w2 O σ _ (r2.upRow e h1 ev' ⟨q, bs, rfl, rfl, y3, y4, y5, y6, y7, y8⟩ hb (by rw [List.length_append, List.length_singleton]; omega) (x3.append (.cons rv .nil)))
              · rw [if_neg hz] at h2'; exact h2'.elim
        | _ => exact h1'.elim
      | _ => exact h.elim
end

/-! ### rows made, a name that a block reads, too -/
section
variable {X : Cx} {C : Nat → Addr} {W : WX} {k : Nat} {e tg iter : Expr} {pos : Pos} {fi : AF} {t : Tgt}
theorem pe_l2 (j : Nat) {lp : Pos} {scope : Scope} (own : List (Str × Nat)) (g : G X C W k) (hj : own.map (·.2) = [j]) (hi : DI X C W fi tg iter) (ok : blkC X.N X.env.scope scope own = true)
    (hg : ∀ (s : Shared) (H : Hp) (D : Addr) (cl : List (Str × Addr)) (fp : List Addr), DG (X.blk s H scope (compEnvC scope cl D X.env) fp) C (.nm j) tg)
    (hs : ∀ x, foldedSetIterable iter X.env x = pure x := by intro _; rfl) : PE X (.ListComp (.List [] lp) [⟨tg, iter, [], 0⟩] scope pos) (tL2 X.K C W fi) :=
  PE.imp (pe_lc (g := tG X.K C (.nm j)) (tt := tT X.K C WF yesT) (te := tLst tNil) g.calm g.nd hi (blkOk_by ok) hg (fun s H D cl fp => dts_nil) (fun s H D cl fp => pe_lst pa_nil) hs) fun σ H Q h => by
    rw [hj]; exact l2_imp h
theorem ds_own2c (i : Nat) {x : Str} {pos' : Pos} (g : G X C W k) (he : PE X e (tL2 X.K C W fi)) (hi : X.N[i]? = some x := by rfl) (hx : Loc X.env.scope x := by first | exact .inl rfl | exact .inr rfl) (hs : swapsWith e (some (.Name x pos')) pos.line X.env = pure false := by rfl)
    (hf : X.fn x = true ∨ X.env.scope.names.lookup x = some .local := by first | exact .inl rfl | exact .inr rfl) : DS X C W (own2S i fi) (.Assign [.Name x pos'] e pos) :=
  fun w0 H0 N0 => PS.imp (ps_set g.nd hi hx he hs hf) fun _ _ _ h => own2_imp h
/-- what is never reached -/
def badS : SF := fun _ _ => .bad
theorem ds_bad {s : Stmt} : DS X C W badS s := fun w0 H0 N0 => ⟨fun pins sh σ H D I ⟨_, _, _, _, _, h⟩ => h.elim⟩
end
end BF

/-! BF27: x < y, x <= y of data that are alike. -/
namespace BF
open PySem L2
def gLtA (x y : D) : Option Bool := if (SeqAt.shaped x && SeqAt.shaped y && PySem.W.alike x y && !isNo x) = true then some (PySem.W.dataLt x y) else none
def gLeA (x y : D) : Option Bool := if (SeqAt.shaped x && SeqAt.shaped y && PySem.W.alike x y && !isNo x) = true then some (!PySem.W.dataLt y x) else none
def rLtA (K : PySem.W.Frag) : R2 := fun x y H Q => ∃ d e, Dp K H x d ∧ Dp K H y e ∧ SeqAt.shaped d = true ∧ SeqAt.shaped e = true ∧ PySem.W.alike d e = true ∧ d ≠ .none ∧ Q (.bl (PySem.W.dataLt d e)) H
def rLeA (K : PySem.W.Frag) : R2 := fun x y H Q => ∃ d e, Dp K H x d ∧ Dp K H y e ∧ SeqAt.shaped d = true ∧ SeqAt.shaped e = true ∧ PySem.W.alike d e = true ∧ d ≠ .none ∧ Q (.bl (!PySem.W.dataLt e d)) H
section
variable {X : Cx} {K : PySem.W.Frag} {C : Nat → Addr}
theorem depth_shaped {d : D} (h : SeqAt.shaped d = true) : d.depth ≤ 64 := by
  unfold SeqAt.shaped at h
  rw [Bool.and_eq_true, decide_eq_true_eq] at h
  exact h.2
theorem op_ltA (hu : X.A.units + 65 < cLine) : OpR X (compareOp .Lt) (rLtA X.K) := fun pins s σ H x y v u Q I rx ry ⟨d, e, hd, he, sd, se, al, hn, q⟩ => by
  obtain ⟨as, r1⟩ := Dp.reads I d x v hd rx
  obtain ⟨bs, r2⟩ := Dp.reads I e y u he ry
  exact PySem.W.lt_data r1 r2 al hn (by have := depth_shaped sd; omega) ⟨.bl _, H, I, rfl, q⟩
theorem op_leA (hu : X.A.units + 65 < cLine) : OpR X (compareOp .LtE) (rLeA X.K) := fun pins s σ H x y v u Q I rx ry ⟨d, e, hd, he, sd, se, al, hn, q⟩ => by
  obtain ⟨as, r1⟩ := Dp.reads I d x v hd rx
  obtain ⟨bs, r2⟩ := Dp.reads I e y u he ry
  exact PySem.W.le_data r1 r2 al hn (by have := depth_shaped sd; omega) ⟨.bl _, H, I, rfl, q⟩
theorem isNo_ne {d : D} (h : isNo d = false) : d ≠ .none := fun e => by rw [e] at h; cases h
theorem os_ltA : Cm2 K C (rLtA K) gLtA := by
  intro w st H v u x y b Q k rv ru e q
  unfold gLtA at e
  split at e
  · rename_i hz
    cases e
    simp only [Bool.and_eq_true, Bool.not_eq_true'] at hz
    obtain ⟨⟨⟨h1, h2⟩, h3⟩, h4⟩ := hz
    exact ⟨x, y, rv.dp k.sub (SeqAt.canLay_of_shaped h1), ru.dp k.sub (SeqAt.canLay_of_shaped h2), h1, h2, h3, isNo_ne h4, q⟩
  · cases e
theorem os_leA : Cm2 K C (rLeA K) gLeA := by
  intro w st H v u x y b Q k rv ru e q
  unfold gLeA at e
  split at e
  · rename_i hz
    cases e
    simp only [Bool.and_eq_true, Bool.not_eq_true'] at hz
    obtain ⟨⟨⟨h1, h2⟩, h3⟩, h4⟩ := hz
    exact ⟨x, y, rv.dp k.sub (SeqAt.canLay_of_shaped h1), ru.dp k.sub (SeqAt.canLay_of_shaped h2), h1, h2, h3, isNo_ne h4, q⟩
  · cases e
end
end BF

/-! BF28: dicts with tuple keys: made, stored into, told on; their keys walked. -/
namespace BF
open PySem L2

/-! ### tables -/
section
variable {N : Nv}
theorem RepT.any {k : List Key} {ys : List D} (r : RepA N (k.map kV) ys) : ∀ {kvs : List (List Key × V)} {kds : List (D × D)}, RepT N kvs kds → (kvs.any fun kv => decide (kv.1 = k)) = kds.any fun p => PyData.eqv p.1 (.tuple ys)
  | _, _, .nil => rfl
  | (k', v) :: kvs, (.tuple ks, d) :: kds, .cons r1 _ r2 r3 => by
    have e : PyData.eqv (.tuple ks) (.tuple ys) = decide (k' = k) := by simp only [PyData.eqv]; exact eqv_keys r1 r
    rw [List.any_cons, List.any_cons, RepT.any r r3, e]
theorem RepT.app {kvs kvs' : List (List Key × V)} {kds kds' : List (D × D)} (a : RepT N kvs kds) (b : RepT N kvs' kds') : RepT N (kvs ++ kvs') (kds ++ kds') := by
  match kvs, kds, a with
  | _, _, .nil => exact b
  | _, _, .cons r1 z r2 r3 => exact .cons r1 z r2 (r3.app b)
theorem RepT.put {k : List Key} {ys : List D} {d : D} {v : V} (r : RepA N (k.map kV) ys) (zy : ys.length ≤ sizeLine) (rv : Rep N v d) {kvs : List (List Key × V)} {kds : List (D × D)} (h : RepT N kvs kds) : RepT N (putK kvs k v) (putT kds (.tuple ys) d) := by
  unfold putK putT
  rw [RepT.any r h]
  split
  · have : ∀ {kvs : List (List Key × V)} {kds : List (D × D)}, RepT N kvs kds → RepT N (kvs.map fun kv => if kv.1 = k then (kv.1, v) else kv) (kds.map fun p => if PyData.eqv p.1 (.tuple ys) = true then (p.1, d) else p) := by
      intro kvs kds h
      induction kvs generalizing kds with
      | nil => cases h; exact .nil
      | cons p kvs ih =>
        cases h with
        | @cons k' v' _ ks d' kds r1 zk r2 r3 =>
          rw [List.map_cons, List.map_cons]
          have e : PyData.eqv (.tuple ks) (.tuple ys) = decide (k' = k) := by simp only [PyData.eqv]; exact eqv_keys r1 r
          by_cases q : k' = k
          · rw [if_pos q, if_pos (by show PyData.eqv (.tuple ks) (.tuple ys) = true; rw [e, decide_eq_true q])]
            exact .cons r1 zk rv (ih r3)
          · rw [if_neg q, if_neg (by show ¬ PyData.eqv (.tuple ks) (.tuple ys) = true; rw [e, decide_eq_false q]; simp)]
            exact .cons r1 zk r2 (ih r3)
    exact this h
  · exact h.app (.cons r zy rv .nil)
theorem RepT.length : ∀ {kvs : List (List Key × V)} {kds : List (D × D)}, RepT N kvs kds → kvs.length = kds.length
  | _, _, .nil => rfl
  | _, _, .cons _ _ _ r => by rw [List.length_cons, List.length_cons, r.length]
theorem RepT.getK : ∀ {kvs : List (List Key × V)} {kds : List (D × D)}, RepT N kvs kds → ∀ {i : Nat} {d : D}, (kds.map (·.1))[i]? = some d → ∃ k v ks, kvs[i]? = some (k, v) ∧ d = .tuple ks ∧ RepA N (k.map kV) ks ∧ ks.length ≤ sizeLine
  | _, _, .nil, i, d, h => by simp at h
  | (k, v) :: kvs, (.tuple ks, y) :: kds, .cons r1 z r2 r3, 0, d, h => by
    cases h
    exact ⟨k, v, ks, rfl, rfl, r1, z⟩
  | (k, v) :: kvs, (.tuple ks, y) :: kds, .cons r1 _ r2 r3, i + 1, d, h => r3.getK (by simpa using h)
end
theorem putT_len (kds : List (D × D)) (y d : D) : (putT kds y d).length ≤ kds.length + 1 := by
  unfold putT
  split
  · rw [List.length_map]; omega
  · rw [List.length_append]; exact Nat.le_refl _

/-! ### found = {} -/
def dnewS (i : Nat) : SF := fun ρ st => if i < ρ.length then .nx (ρ.set i (.dic true [])) st else .bad
section
variable {X : Cx} {C : Nat → Addr} {W : WX} {k : Nat} {a b : Expr} {fa fk fx : EF} {pos : Pos}
theorem dnew_imp {K : PySem.W.Frag} {w0 : Wd} {H0 : Hp} {N0 : Nv} {i : Nat} {D : Ends} {σ : St} {H : Hp} (h : tS K C W w0 H0 N0 (dnewS i) D σ H) : tAsg tDNewT (gName i) D σ H := by
  obtain ⟨w, st, O, ρ, rel, h⟩ := h
  intro p hp
  unfold dnewS at h
  by_cases hi : i < ρ.length
  · rw [if_pos hi] at h
    have z := none1 rel.rel.ok hp
    exact h w _ _ _ (rel.setOwn hi (Grow.raw rel.rel.ok hp) (Ok.raw rel.rel.ok hp) hp z.1 z.2 ⟨p, rfl, rfl, Nat.zero_le _, [], upd_same, .nil⟩)
  · rw [if_neg hi] at h; exact h.elim
theorem ds_dnew (i : Nat) {x : Str} {pos' dpos : Pos} (g : G X C W k) (hi : X.N[i]? = some x := by rfl) (hx : Loc X.env.scope x := by first | exact .inl rfl | exact .inr rfl) (hs : swapsWith (.Dict [] [] dpos) (some (.Name x pos')) pos.line X.env = pure false := by rfl)
    (hf : X.fn x = true ∨ X.env.scope.names.lookup x = some .local := by first | exact .inl rfl | exact .inr rfl) : DS X C W (dnewS i) (.Assign [.Name x pos'] (.Dict [] [] dpos) pos) :=
  fun w0 H0 N0 => PS.imp (ps_set g.nd hi hx pe_dnewT hs hf) fun _ _ _ h => dnew_imp h
end

/-! ### found.get(k, x), found[k] = y -/
def dgetO (i : Nat) (fk fx : EF) : EF := fun ρ st => match ρ[i]? with
  | some (.dic true _) => (fk ρ st).bnd fun y st => (fx ρ st).bnd fun z st => match ρ[i]?, y with
    | some (.dic true kds), .tuple ys => if ys.all isKey = true then .ok ((lookT kds (.tuple ys)).getD z) st else .bad
    | _, _ => .bad
  | _ => .bad
def dputS (i : Nat) (fk fa : EF) : SF := fun ρ st => match ρ[i]? with
  | some (.dic true kds) => SO.ofE (fa ρ st) ρ fun d st => SO.ofE (fk ρ st) ρ fun y st => match y with
    | .tuple ys => if ys.all isKey = true ∧ kds.length < 16777216 then .nx (ρ.set i (.dic true (putT kds (.tuple ys) d))) st else .bad
    | _ => .bad
  | _ => .bad
section
variable {K : PySem.W.Frag} {C : Nat → Addr} {W : WX} {w : Wd} {st : Sto} {O : Nat → List Addr} {ρ : Slots} {σ : St} {H : Hp}
theorem Rel.dicT (r : Rel K C w st O ρ σ H) {i : Nat} {kds : List (D × D)} (e : ρ[i]? = some (.dic true kds)) : ∃ p us, O i = [p] ∧ σ[i]? = some (some (.ref p)) ∧ H p = some (.dT us) ∧ kds.length ≤ sizeLine ∧ RepT (w.env K C) us kds ∧ w.F p = none ∧ ¬ w.In p := by
  obtain ⟨v, ev, a, h1, h2, z, us, h3, h4⟩ := r.slot i _ e
  subst h2
  have hp : a ∈ O i := by rw [h1]; simp
  exact ⟨a, us, h1, ev, h3, z, h4, (r.ofz i a hp).1, (r.ofz i a hp).2⟩
end
section
variable {X : Cx} {C : Nat → Addr} {W : WX} {k : Nat} {a b : Expr} {fa fk fx : EF} {x : Str} {p pos apos cpos : Pos}
theorem de_dgetO (i : Nat) (g : G X C W k) (hk : DE X C W fk a) (hx : DE X C W fx b) (m : M2 X (.Name x p) "get" apos a b cpos) (hN : X.N[i]? = some x := by rfl) (hv : Vis X.env.scope x := by first | exact Or.inl rfl | exact Or.inr (Or.inl rfl) | exact Or.inr (Or.inr rfl))
    (hd : (x == ("__debug__" : Str)) = false := by decide) (hcd : (x == ("__classdict__" : Str)) = false := by decide) : DE X C W (dgetO i fk fx) (.Call (.Attribute (.Name x p) "get" apos) [a, b] [] cpos) :=
  PE.imp (pe_dget2 (by have := g.u65; omega) (pv i hN hv hd hcd) hk hx m) fun σ H Q ⟨w, st, O, ρ, rel, h⟩ => by
    unfold dgetO at h
    cases e : ρ[i]? with
    | none => simp only [e] at h; exact h.elim
    | some s =>
      simp only [e] at h
      cases s with
      | dic t kds =>
        cases t with
        | false => exact h.elim
        | true =>
          obtain ⟨q, us, hO, hσ, hq, z, rq, z1, z2⟩ := rel.dicT e
          refine ⟨_, hσ, q, rfl, .inr ⟨us, .inl hq⟩, w, st, O, ρ, rel, (Out.bnd h).mono fun w1 H1 y st1 g1 k1 h1 u ru => ?_⟩
          obtain ⟨d3, d1, d2⟩ := g1.apart k1 hq z1 z2
          refine ⟨w1, st1, O, ρ, rel.grow g1 k1, (Out.bnd h1).mono fun w2 H2 c st2 g2 k2 h2 v rv => ?_⟩
          obtain ⟨e3, e1, e2⟩ := g2.apart k2 d3 d1 d2
          cases y with
          | tuple ys =>
            simp only at h2
            by_cases hk : ys.all isKey = true
            · rw [if_pos hk] at h2
              obtain ⟨bb, vs, rfl, hb, zb, rb⟩ := (ru.le (g2.le X.K C)).inT
              obtain ⟨ks, rfl⟩ := rb.keys hk
              refine ⟨valV us ks, DGet.t e3 (k2.sub _ _ hb), ?_⟩
              have rq2 := (rq.le (g1.le X.K C)).le (g2.le X.K C)
              rcases RepT.look rb rq2 with ⟨q1, q2⟩ | ⟨z', d', q1, q2, q3⟩
              · rw [q1]; rw [q2] at h2
                exact Out.here h2 k2 _ rv
              · rw [q1]; rw [q2] at h2
                exact Out.here h2 k2 _ q3
            · rw [if_neg hk] at h2; exact h2.elim
          | _ => exact h2.elim
      | _ => exact h.elim
theorem ds_dput (i : Nat) {pos' : Pos} (g : G X C W k) (ha : DE X C W fa a) (hk : DE X C W fk b) (hN : X.N[i]? = some x := by rfl) (hv : Vis X.env.scope x := by first | exact Or.inl rfl | exact Or.inr (Or.inl rfl) | exact Or.inr (Or.inr rfl))
    (hd : (x == ("__debug__" : Str)) = false := by decide) (hcd : (x == ("__classdict__" : Str)) = false := by decide)
    (hs : swapsWith a (some (.Subscript (.Name x p) b pos')) pos.line X.env = pure false := by rfl) : DS X C W (dputS i fk fa) (.Assign [.Subscript (.Name x p) b pos'] a pos) := fun w0 H0 N0 =>
  PS.imp (ps_dput (by have := g.u65; omega) (pv i hN hv hd hcd) hk ha hs) fun Dn σ H ⟨w, st, O, ρ, rel, h⟩ => by
    unfold dputS at h
    cases e : ρ[i]? with
    | none => simp only [e] at h; exact h.elim
    | some s =>
      simp only [e] at h
      cases s with
      | dic t kds =>
        cases t with
        | false => exact h.elim
        | true =>
          refine ⟨w, st, O, ρ, rel.rel, (ofE_imp h rel).mono fun w1 H1 d st1 g1 k1 ⟨r1, h1⟩ v rv => ?_⟩
          obtain ⟨q, us, hO, hσ, hq, z, rq, z1, z2⟩ := r1.rel.dicT e
          refine ⟨_, hσ, w1, st1, O, ρ, r1.rel, (ofE_imp h1 r1).mono fun w2 H2 y st2 g2 k2 ⟨r2, h2⟩ u ru => ?_⟩
          obtain ⟨d3, d1, d2⟩ := g2.apart k2 hq z1 z2
          cases y with
          | tuple ys =>
            simp only at h2
            by_cases hk : ys.all isKey = true ∧ kds.length < 16777216
            · rw [if_pos hk] at h2
              obtain ⟨bb, vs, rfl, hb, zb, rb⟩ := ru.inT
              obtain ⟨ks, rfl⟩ := rb.keys hk.1
              have rq2 := rq.le (g2.le X.K C)
              have hl : us.length < sizeLine := by rw [rq2.length, sizeLine_eq]; exact hk.2
              refine ⟨q, _, rfl, DPut.t d3 (k2.sub _ _ hb) hl, ?_⟩
              refine h2 w2 O σ _ (r2.upOwn e hO hσ ⟨q, rfl, rfl, ?_, _, upd_same, rq2.put rb zb (rv.le (g2.le X.K C))⟩)
              have := putT_len kds (.tuple ys) d
              rw [sizeLine_eq]; omega
            · rw [if_neg hk] at h2; exact h2.elim
          | _ => exact h2.elim
      | _ => exact h.elim
end

/-! ### told on, for good -/
section
variable {K : PySem.W.Frag} {C : Nat → Addr} {w0 w : Wd} {H0 H : Hp} {N0 : Nv} {st : Sto} {O : Nat → List Addr} {ρ : Slots} {σ : St}
theorem RelS.iceAs (r : RelS K C w0 H0 N0 w st O ρ σ H) {i : Nat} {a : Addr} {o0 o : HO} {s : Slot} {d : D} (e : ρ[i]? = some s) (hO : O i = [a]) (hσ : σ[i]? = some (some (.ref a))) (h0 : H a = some o0)
    (hr : Rep ((w.fz a o).env K C) (.ref a) d) : RelS K C w0 H0 N0 (w.fz a o) st (clr O i) (ρ.set i (.val d)) σ (L2.upd H a o) := by
  have hm : a ∈ O i := by rw [hO]; simp
  obtain ⟨z1, z2⟩ := r.rel.ofz i a hm
  have le' := le_fz (K := K) (C := C) (o := o) z1
  refine ⟨⟨(r.rel.ok.upd z1 z2).ice upd_same z1 z2, by simpa using r.rel.len, fun j s' ej => ?_, fun j hj => ?_, fun j b hb => ?_, fun j l b h1 h2 => r.rel.dj j l b (clr_sub h1) (clr_sub h2)⟩, (r.grow.upd (r.new i a hm)).ice (r.new i a hm) z1, fun j b hb => r.new j b (clr_sub hb), r.le.trans le'⟩
  · by_cases hj : j = i
    · subst hj
      rw [List.getElem?_set_self (List.getElem?_eq_some_iff.mp e).1] at ej
      cases ej
      refine ⟨_, hσ, ?_⟩
      unfold clr
      rw [if_pos rfl]
      exact ⟨rfl, _, rfl, hr⟩
    · rw [List.getElem?_set_ne (Ne.symm hj)] at ej
      obtain ⟨v', e1, h1⟩ := r.rel.slot j s' ej
      refine ⟨v', e1, ?_⟩
      unfold clr
      rw [if_neg hj]
      exact h1.le le' fun x hx u hu => by rw [upd_ne (fun q => hj (r.rel.dj j i x hx (by rw [hO, q]; simp)))]; exact hu
  · unfold clr
    split
    · rfl
    · exact r.rel.out j (by simpa using hj)
  · have hb' : b ∈ O j ∧ j ≠ i := by
      unfold clr at hb
      split at hb
      · simp at hb
      · rename_i q; exact ⟨hb, q⟩
    refine ⟨?_, (r.rel.ofz j b hb'.1).2⟩
    show L2.upd w.F a o b = none
    rw [upd_ne (fun q => hb'.2 (r.rel.dj j i b hb'.1 (by rw [hO, q]; simp)))]
    exact (r.rel.ofz j b hb'.1).1
end
def iceT (i : Nat) : SF := fun ρ st => match ρ[i]? with
  | some (.dic true kds) => .nx (ρ.set i (.val (.dict (mk0 :: kds)))) st
  | some (.val _) => .nx ρ st
  | _ => .bad
section
variable {X : Cx} {C : Nat → Addr} {W : WX} {rest : List Stmt} {f : SF}
theorem dss_iceT (i : Nat) (h : DSs X C W f rest) : DSs X C W (seqS (iceT i) f) rest := fun w0 H0 N0 => ⟨fun pins s σ H Dn I ⟨w, st, O, ρ, rel, h1⟩ => by
  unfold seqS iceT at h1
  cases e : ρ[i]? with
  | none => rw [e] at h1; exact h1.elim
  | some sl =>
    rw [e] at h1
    cases sl with
    | val d => exact (h w0 H0 N0).run pins s σ H Dn I ⟨w, st, O, ρ, rel, h1⟩
    | dic t kds =>
      cases t with
      | false => exact h1.elim
      | true =>
        obtain ⟨q, us, hO, hσ, hq, z, rq, z1, z2⟩ := rel.rel.dicT e
        obtain ⟨od, I1⟩ := I.lock hq (show Mut (some (.dT us)) from True.intro)
        refine (h w0 H0 N0).run pins s σ _ Dn I1 ⟨_, st, _, _, rel.iceAs (o := .frz od (.dT us)) e hO hσ hq (.dT (o := od) (kvs := us) ?_ z (rq.le (le_fz z1))), h1⟩
        show upd w.F q _ q = _
        exact upd_same
    | _ => exact h1.elim⟩
end

/-! ### for k in d.keys() -/
section
variable {K : PySem.W.Frag} {C : Nat → Addr} {w0 w : Wd} {st : Sto} {H0 H : Hp}
theorem ObOk.notup {N : Nv} {fp : List Addr} {o : Ob} (h : ObOk N H fp o) : ∀ a ∈ fp, ∀ xs, H a ≠ some (.tup xs) := by
  have fls : ∀ {fp : List Addr} {vs : List (Str × V)} {fs : List (Str × Fl)}, FlsOk N H fp vs fs → ∀ a ∈ fp, ∀ xs, H a ≠ some (.tup xs) := by
    intro fp vs fs h
    induction h with
    | nil => intro a ha; simp at ha
    | @cons fp fq x v f vs fs h q ih =>
      intro a ha xs hc
      rcases List.mem_append.mp ha with ha | ha
      · cases f with
        | val d => rw [h.1] at ha; simp at ha
        | own ds =>
          obtain ⟨b, rfl, _, vs, e, _⟩ := h
          have : a = b := by simpa using ha
          subst this
          rw [e] at hc; cases hc
      · exact ih a ha xs hc
  intro a ha xs hc
  cases o with
  | lst ds =>
    obtain ⟨b, rfl, vs, e, _⟩ := h
    have : a = b := by simpa using ha
    subst this
    rw [e] at hc; cases hc
  | dct kvs =>
    obtain ⟨b, fq, vs, rfl, h1, z, h⟩ := h
    rcases List.mem_cons.mp ha with rfl | ha
    · rw [h1] at hc; cases hc
    · exact fls h a ha xs hc
  | ins c fs =>
    obtain ⟨b, dx, fq, vs, rfl, h1, h2, z, h⟩ := h
    rcases List.mem_cons.mp ha with rfl | ha
    · rw [h1] at hc; cases hc
    · rcases List.mem_cons.mp ha with rfl | ha
      · rw [h2] at hc; cases hc
      · exact fls h a ha xs hc
theorem Ok.notup (k : Ok K C w st H) {a : Addr} (h : w.In a) : ∀ xs, H a ≠ some (.tup xs) := by
  obtain ⟨fp, hf, ha⟩ := h
  obtain ⟨i, hi, e⟩ := List.getElem_of_mem hf
  have hi' : i < st.length := by rw [← k.len]; exact hi
  exact (k.obs i fp st[i] (by rw [List.getElem?_eq_getElem hi, e]) (by simp [hi'])).notup a ha
/-- a tuple that stands is known from here on -/
theorem known_tup (k : Ok K C w st H) {q : Addr} {xs : List V} (hq : H q = some (.tup xs)) : ∃ w3, Grow w H w3 H ∧ Ok K C w3 st H ∧ w3.F q = some (.tup xs) := by
  cases e : w.F q with
  | some o =>
    have := k.sub q o e
    rw [hq] at this
    cases this
    exact ⟨w, .refl _ _, k, e⟩
  | none =>
    have hi : ¬ w.In q := fun h => k.notup h xs hq
    refine ⟨w.fz q (.tup xs), ⟨fun a u h => ?_, fun a u h => ?_, fun a h => .inl h, fun a u h _ => h, fun a h => h, fun i a h => h⟩, k.ice hq e hi, upd_same⟩
    · show upd w.F q _ a = some u
      rw [upd_ne (fun z => by rw [z, e] at h; cases h)]; exact h
    · have h' : upd w.F q (.tup xs) a = some u := h
      by_cases z : a = q
      · subst z
        rw [upd_same] at h'
        cases h'
        exact .inr (.inr ⟨xs, rfl⟩)
      · rw [upd_ne z] at h'; exact .inl h'
theorem itkt_ok {c : Addr} {o : Obj} {us : List (List Key × V)} {kds : List (D × D)} (hc : w.F c = some (.frz o (.dT us))) (r : RepT (w.env K C) us kds) : ItOk K C w (Itkt c o us) (kds.map (·.1)) := by
  intro w2 st H2 hle k2
  have hs := k2.sub _ _ (hle.F _ _ hc)
  refine ⟨fun i d hd => ?_, fun i hi => ⟨hs, by rw [r.length]; simpa using hi⟩⟩
  obtain ⟨k, v, ks, e1, rfl, rk, zk⟩ := r.getK hd
  refine ⟨⟨hs, (List.getElem?_eq_some_iff.mp e1).1⟩, fun x H3 ⟨e, k', v', q, e2, e3, e4⟩ => ?_⟩
  rw [e1] at e2
  cases e2
  obtain ⟨w3, g3, k3, f3⟩ := known_tup k2 e4
  subst e3
  exact ⟨e, w3, g3, k3, .tup f3 zk ((rk.le hle).le (g3.le K C))⟩
end
/-- .. in e.keys(), tuple keys, the dict told on -/
def iKeysMT (td : TE) : TI := fun σ H R => td σ H fun x H1 => ∃ d o kvs, x = .ref d ∧ H1 d = some (.frz o (.dT kvs)) ∧ R (Itkt d o kvs) H1
section
variable {X : Cx} {tg e : Expr} {td : TE} {apos cpos : Pos}
theorem pi_keysMT (he : PE X e td) (hbase : attributeBase e "keys" X.env (eval e X.env) = eval e X.env := by rfl) (hline : (apos.endLine == cpos.line) = true := by rfl) : PI X tg (.Call (.Attribute e "keys" apos) [] [] cpos) (iKeysMT td) := by
  refine ⟨fun pins s σ H R I h => ?_⟩
  refine wpAny_Call_method (T := "dict") (id := "dict.keys") hbase rfl hline F.plainAttrs_dict F.slot_dict_keys F.type_dict_keys (thn (he.run pins s σ H _ I h) fun u s1 ⟨x, H1, I1, rx, d, o, kvs, ex, hd, q⟩ => ?_)
  subst ex
  obtain rfl : u = Value.ref d := rx
  obtain ⟨hs, hgd, hx, es, ep, hdt, hsz, ent⟩ := I1.frzT hd
  have hm : s1.heap.DictRaw d es ep := ⟨o, hgd, hx, hdt⟩
  refine ⟨hm.typeIs, fun b z => ?_, ?_⟩
  · cases z
    exact ⟨o, hgd, hx.2.1⟩
  have I2 : Inv X pins σ H1 { s1 with heap := s1.heap.push { cls := .type "dict_keys", data := .fields #[.ref d] } } := I1.kept (t' := s1.toks) fun b ob q => Heap.get?_push_of_some _ q
  have fin : wpAny (model X.prog X.w) X.A (pyIter (.ref s1.heap.objs.size)) (PIE X pins σ tg R) X.xe { s1 with heap := s1.heap.push { cls := .type "dict_keys", data := .fields #[.ref d] } } := by
    refine wpAny_pyIter_keys_raw (d := d) ⟨_, Heap.get?_push_size _ rfl, rfl, rfl⟩ (hm.at fun _ z => Heap.get?_push_of_some _ z) (pi_one (tk := s1.toks) I2 _ (turn_keysT _ hdt) ⟨_, Heap.get?_push_size _ rfl, rfl, ?_⟩ q)
    rw [hsz] <;> rfl
  show wpAny _ _ (callWith cpos (.builtin "dict.keys") [.ref d] [] []) _ X.xe s1
  exact method_meetsIn F.slot_dict_keys F.entry_dict_keys rfl (PySem.evalArgs_none ⟨rfl, hm.typeIs, F.args_dict_keys_1 _, _, meets_dict_keys_raw d hs, ⟨es, ep, hm⟩, fin⟩)
end
def keysT (fa : EF) : AF := fun ρ st => (fa ρ st).bnd fun d st => match d with
  | .dict kds => (match unT kds with
    | some r => .ok (r.map (·.1)) st
    | none => .bad)
  | _ => .bad
section
variable {X : Cx} {C : Nat → Addr} {W : WX} {e tg : Expr} {fa : EF} {apos cpos : Pos}
theorem di_keysT (ha : DE X C W fa e) (hbase : attributeBase e "keys" X.env (eval e X.env) = eval e X.env := by rfl) (hline : (apos.endLine == cpos.line) = true := by rfl) : DI X C W (keysT fa) tg (.Call (.Attribute e "keys" apos) [] [] cpos) :=
  PI.imp (pi_keysMT ha hbase hline) fun σ H R ⟨w, st, O, ρ, rel, h⟩ => by
    refine ⟨w, st, O, ρ, rel, (Out.bnd h).mono fun w1 H1 d st1 g1 k1 h1 v rv => ?_⟩
    cases d with
    | dict kds =>
      simp only at h1
      cases e1 : unT kds with
      | none => rw [e1] at h1; exact h1.elim
      | some r =>
        rw [e1] at h1
        have := unT_eq e1
        subst this
        cases rv with
        | dT hf z rt =>
          have z' : (r.map (·.1)).length ≤ sizeLine := by rw [List.length_map]; exact z
          exact ⟨_, _, _, rfl, k1.sub _ _ hf, Out.here h1 k1 z' _ (itkt_ok hf rt)⟩
        | dK hf z rt => cases rt with
          | @cons ky => rename_i r1 r2 r3; cases ky <;> cases r1
    | _ => exact h1.elim
end
end BF

/-! BF29: instances: o.f, o.f = v. -/
namespace BF
open PySem L2

def isValF : Fl → Bool
  | .val _ => true
  | _ => false
def putFl (f : Str) (v : Fl) : List (Str × Fl) → List (Str × Fl)
  | [] => [(f, v)]
  | (g, x) :: r => if g = f then (g, v) :: r else (g, x) :: putFl f v r
section
variable {N : Nv} {H : Hp}
/-- fields that are values all -/
theorem flsV : ∀ {fp : List Addr} {vs : List (Str × V)} {fs : List (Str × Fl)}, FlsOk N H fp vs fs → (fs.all fun p => isValF p.2) = true → fp = []
  | _, _, _, .nil, _ => rfl
  | _, _, _, @FlsOk.cons _ _ fp fq x v f vs fs h q, hz => by
    simp only [List.all_cons, Bool.and_eq_true] at hz
    cases f with
    | val d => rw [h.1, flsV q hz.2]; rfl
    | own ds => cases hz.1
theorem flsLook {f : Str} : ∀ {fp : List Addr} {vs : List (Str × V)} {fs : List (Str × Fl)}, FlsOk N H fp vs fs → (fs.lookup f = none ∧ vs.lookup f = none) ∨ ∃ fl v fq, fs.lookup f = some fl ∧ vs.lookup f = some v ∧ FlOk N H fq v fl
  | _, _, _, .nil => .inl ⟨rfl, rfl⟩
  | _, _, _, @FlsOk.cons _ _ fp fq x v fl vs fs h q => by
    have ih := flsLook (f := f) q
    rw [List.lookup_cons, List.lookup_cons]
    by_cases e : f = x
    · subst e
      rw [beq_self_eq_true]
      exact .inr ⟨fl, v, fp, rfl, rfl, h⟩
    · rw [show (f == x) = false from beq_eq_false_iff_ne.mpr e]
      exact ih
theorem flsPut {f : Str} {v : V} {d : D} (r : Rep N v d) : ∀ {fp : List Addr} {vs : List (Str × V)} {fs : List (Str × Fl)}, FlsOk N H fp vs fs → (fs.all fun p => isValF p.2) = true → FlsOk N H [] (putF f v vs) (putFl f (.val d) fs) ∧ ((putFl f (.val d) fs).all fun p => isValF p.2) = true
  | _, _, _, .nil, _ => ⟨.cons (fp := []) (fq := []) ⟨rfl, r⟩ .nil, rfl⟩
  | _, _, _, @FlsOk.cons _ _ fp fq x u fl vs fs h q, hz => by
    simp only [List.all_cons, Bool.and_eq_true] at hz
    have e1 := flsV q hz.2
    subst e1
    cases fl with
    | own ds => cases hz.1
    | val d0 =>
      obtain ⟨e2, h2⟩ := h
      subst e2
      unfold putF putFl
      by_cases e : x = f
      · rw [if_pos e, if_pos e]
        exact ⟨.cons (fp := []) (fq := []) ⟨rfl, r⟩ q, by simp only [List.all_cons, Bool.and_eq_true]; exact ⟨rfl, hz.2⟩⟩
      · rw [if_neg e, if_neg e]
        obtain ⟨i1, i2⟩ := flsPut (f := f) r q hz.2
        exact ⟨.cons (fp := []) (fq := []) ⟨rfl, h2⟩ i1, by simp only [List.all_cons, Bool.and_eq_true]; exact ⟨rfl, i2⟩⟩
theorem flsLen : ∀ {fp : List Addr} {vs : List (Str × V)} {fs : List (Str × Fl)}, FlsOk N H fp vs fs → vs.length = fs.length
  | _, _, _, .nil => rfl
  | _, _, _, .cons _ q => by rw [List.length_cons, List.length_cons, flsLen q]
end
theorem putFl_len (f : Str) (v : Fl) : ∀ fs : List (Str × Fl), (putFl f v fs).length ≤ fs.length + 1
  | [] => Nat.le_refl _
  | (g, x) :: r => by
    unfold putFl
    split
    · rw [List.length_cons, List.length_cons]; omega
    · rw [List.length_cons, List.length_cons]; have := putFl_len f v r; omega

/-! ### o.f -/
def fldF (c : Nat) (fo : EF) (f : Str) : EF := fun ρ st => (fo ρ st).bnd fun d st => match obIx d with
  | some n => (match st[n]? with
    | some (.ins c' fs) => if c' = c then (match fs.lookup f with
      | some (.val v) => .ok v st
      | _ => .bad) else .bad
    | _ => .bad)
  | none => .bad
def setFldS (c : Nat) (fo : EF) (f : Str) (fv : EF) : SF := fun ρ st => SO.ofE (fv ρ st) ρ fun d st => SO.ofE (fo ρ st) ρ fun o st => match obIx o with
  | some n => (match st[n]? with
    | some (.ins c' fs) => if c' = c ∧ fs.length < 800 ∧ (fs.all fun p => isValF p.2) = true then .nx ρ (st.set n (.ins c (putFl f (.val d) fs))) else .bad
    | _ => .bad)
  | none => .bad
section
variable {K : PySem.W.Frag} {C : Nat → Addr} {w : Wd} {st : Sto} {H : Hp}
theorem ob_ins {n : Nat} {a : Addr} {c : Nat} {fs : List (Str × Fl)} (k : Ok K C w st H) (hr : w.R[n]? = some a) (hs : st[n]? = some (.ins c fs)) : ∃ dx fq vs, w.P[n]? = some (a :: dx :: fq) ∧ H a = some (.ins (C c) dx vs) ∧ H dx = some (.own a) ∧ fs.length ≤ 900 ∧ FlsOk (w.env K C) H fq vs fs := by
  obtain ⟨fp, h1, h2⟩ := Wd.R_get hr
  obtain ⟨b, dx, fq, vs, rfl, h3, h4, z, h5⟩ := k.obs n fp _ h1 hs
  have : b = a := h2
  subst this
  exact ⟨dx, fq, vs, h1, h3, h4, z, h5⟩
/-- a field of a shared instance is changed -/
theorem Ok.setIns {n : Nat} {a dx : Addr} {c : Nat} {fs : List (Str × Fl)} {vs : List (Str × V)} (k : Ok K C w st H) (hp : w.P[n]? = some [a, dx]) (hdx : H dx = some (.own a)) (z : fs.length ≤ 900) (r : FlsOk (w.env K C) H [] vs fs) :
    Ok K C w (st.set n (.ins c fs)) (L2.upd H a (.ins (C c) dx vs)) where
  sub := fun b u h => by
    rw [upd_ne (fun e => by
      have := k.dj a ⟨[a, dx], List.mem_of_getElem? hp, by simp⟩
      rw [e, this] at h; cases h)]
    exact k.sub b u h
  dj := k.dj
  nd := k.nd
  ndd := k.ndd
  len := by simpa using k.len
  obs := fun i fp o h1 h2 => by
    by_cases e : i = n
    · subst e
      rw [List.getElem?_set_self (by rw [← k.len]; exact (List.getElem?_eq_some_iff.mp hp).1)] at h2
      cases h2
      rw [hp] at h1
      cases h1
      have hne : dx ≠ a := fun e => by
        have := k.nd _ (List.mem_of_getElem? hp)
        rw [e] at this; simp at this
      exact ⟨a, dx, [], vs, rfl, upd_same, by rw [upd_ne hne]; exact hdx, z, r.le (.refl _) fun b hb => by simp at hb⟩
    · rw [List.getElem?_set_ne (Ne.symm e)] at h2
      refine (k.obs i fp o h1 h2).le (.refl _) fun b hb u hu => ?_
      rw [upd_ne (fun q => e (k.ndd i n fp [a, dx] a h1 hp (by rw [← q]; exact hb) (by simp)))]
      exact hu
end
section
variable {X : Cx} {C : Nat → Addr} {W : WX} {o e : Expr} {fo fv : EF} {f : Str} {c : Nat} {pos pos' : Pos}
theorem de_fld (hc : Cls X.K (C c)) (hn : NoAttr X.K (C c) f) (ho : DE X C W fo o) (hb : attributeBase o f X.env (eval o X.env) = eval o X.env := by rfl) : DE X C W (fldF c fo f) (.Attribute o f pos) :=
  PE.imp (pe_fld ho hb) fun σ H Q ⟨w, st, O, ρ, rel, h⟩ => by
    refine ⟨w, st, O, ρ, rel, (Out.bnd h).mono fun w1 H1 d st1 g1 k1 h1 v rv => ?_⟩
    cases e2 : obIx d with
    | none => simp only [e2] at h1; exact h1.elim
    | some n =>
      simp only [e2] at h1
      have e3 := obIx_of e2
      subst e3
      obtain ⟨b, rfl, hb⟩ := rv.inO
      cases e5 : st1[n]? with
      | none => rw [e5] at h1; exact h1.elim
      | some ob =>
        rw [e5] at h1
        cases ob with
        | ins c' fs =>
          simp only at h1
          by_cases hcc : c' = c
          · rw [if_pos hcc] at h1
            subst hcc
            obtain ⟨dx, fq, vs, hp, h3, h4, z, h5⟩ := ob_ins k1 hb e5
            rcases flsLook (f := f) h5 with ⟨q1, q2⟩ | ⟨fl, u, fq', q1, q2, q3⟩
            · rw [q1] at h1; exact h1.elim
            · rw [q1] at h1
              cases fl with
              | val d => exact ⟨b, _, dx, vs, u, rfl, h3, hc, hn, q2, Out.here h1 k1 _ q3.2⟩
              | own ds => exact h1.elim
          · rw [if_neg hcc] at h1; exact h1.elim
        | _ => exact h1.elim
theorem ds_fld (hc : Cls X.K (C c)) (hn : NoAttr X.K (C c) f) (ho : DE X C W fo o) (hv : DE X C W fv e) (hs : swapsWith e (some (.Attribute o f pos')) pos.line X.env = pure false := by rfl) : DS X C W (setFldS c fo f fv) (.Assign [.Attribute o f pos'] e pos) := fun w0 H0 N0 =>
  PS.imp (ps_fld ho hv hs) fun Dn σ H ⟨w, st, O, ρ, rel, h⟩ => by
    refine ⟨w, st, O, ρ, rel.rel, (ofE_imp h rel).mono fun w1 H1 d st1 g1 k1 ⟨r1, h1⟩ v rv => ?_⟩
    refine ⟨w1, st1, O, ρ, r1.rel, (ofE_imp h1 r1).mono fun w2 H2 d2 st2 g2 k2 ⟨r2, h2⟩ u ru => ?_⟩
    cases e2 : obIx d2 with
    | none => simp only [e2] at h2; exact h2.elim
    | some n =>
      simp only [e2] at h2
      have e3 := obIx_of e2
      subst e3
      obtain ⟨b, rfl, hb⟩ := ru.inO
      cases e5 : st2[n]? with
      | none => rw [e5] at h2; exact h2.elim
      | some ob =>
        rw [e5] at h2
        cases ob with
        | ins c' fs =>
          simp only at h2
          by_cases hcc : c' = c ∧ fs.length < 800 ∧ (fs.all fun p => isValF p.2) = true
          · rw [if_pos hcc] at h2
            obtain ⟨rfl, hl, hz⟩ := hcc
            obtain ⟨dx, fq, vs, hp, h3, h4, z, h5⟩ := ob_ins k2 hb e5
            have ef := flsV h5 hz
            subst ef
            have hvl := flsLen h5
            obtain ⟨p1, p2⟩ := flsPut (f := f) (rv.le (g2.le X.K C)) h5 hz
            have kk := k2.setIns (c := c') hp h4 (by have := putFl_len f (.val d) fs; omega) p1
            exact ⟨b, _, dx, vs, rfl, h3, hc, hn, by omega, h2 w2 O σ _ (r2.growE (Grow.setIn ⟨[b, dx], List.mem_of_getElem? hp, by simp⟩ ⟨_, h3⟩) kk)⟩
          · rw [if_neg hcc] at h2; exact h2.elim
        | _ => exact h2.elim
end
end BF

/-! BF30: instances: o.m(..). -/
namespace BF
open PySem L2

structure HasM (P : Program) (wo : World) (K : PySem.W.Frag) (mg : Str → Option Value) (base : Heap) (C : Nat → Addr) (c : Nat) (m : Str) (n k : Nat) (fn : Fn) : Prop where
  ex : ∃ (f : Addr) (fd : FuncData) (ps : List Str), FnOk P wo K mg base (L2.CX P wo) k f fd ps (FnD K C n fn) ∧ Cls K (C c) ∧ Meth K (C c) m f ∧ Binds K fd ps []
def methF (c n : Nat) (fn : Fn) (m : Str) (fo : EF) (f : AF) : EF := fun ρ st => (fo ρ st).bnd fun d st => match obIx d with
  | some i => (match st[i]? with
    | some (.ins c' fs) => if c' = c ∧ fs.lookup m = none then (f ρ st).bnd fun ds st => if (D.ob i :: ds).length = n then fn (D.ob i :: ds) st else .bad else .bad
    | _ => .bad)
  | none => .bad
section
variable {X : Cx} {CX : CXT} {k : Nat} {f C : Addr} {fd : FuncData} {ps : List Str} {sp : Sp} {E : St → XK} {m : Str} {pos apos : Pos} {e o : Expr} {es : List Expr} {ta : TE} {t : TA}
def tMethA (C : Addr) (m : Str) (sp : Sp) (E : St → XK) (ta : TE) (t : TA) : TE := fun σ H Q => ta σ H fun x H1 => ∃ a dx fs, x = .ref a ∧ H1 a = some (.ins C dx fs) ∧ fs.lookup m = none ∧ t σ H1 fun vs H2 => sp (x :: vs) H2 Q (E σ)
theorem pe_methA {pl : Sem Bool} (he : PE X o ta) (c : Cls X.K C) (hm : Meth X.K C m f) (F : FnOk X.prog X.w X.K X.mg X.base CX k f fd ps sp) (hr : Room k X.A) (hb : Binds X.K fd ps []) (hx : ∀ σ, PassesAt CX X σ (E σ)) (ha : PA X (e :: es) t)
    (hst : starEach (e :: es) X.env = (false, eval e X.env) :: starEach es X.env := by rfl) (hpl : (backTo pos (starEach es X.env)).any (·.1) = false := by rfl)
    (ht : eval (.Call (.Attribute o m apos) (e :: es) [] pos) X.env = (do
      let ov ← eval o X.env
      standAt apos.atName
      let (f, first) ← holding [ov] (getMethod ov m pl)
      callWith pos f first (backTo pos (starEach (e :: es) X.env)) (backToKw pos (keywordEach [] X.env))) := by rfl) :
    PE X (.Call (.Attribute o m apos) (e :: es) [] pos) (tMethA C m sp E ta t) := by
  refine ⟨fun pins s σ H Q I h => ?_⟩
  refine PySem.W.methodCall_KW (pl := pl) (thn (he.run pins s σ H _ I h) fun u s1 ⟨x, H1, I1, rx, a, dx, fs, ex, ea, l, q⟩ => ?_) ht
  subst ex
  obtain rfl : u = Value.ref a := rx
  refine getmeth_ok I1 ea c hm l ?_
  refine PySem.W.callWith_K (first := [.ref a]) (h₀ := X.base) I.ok.mod.kin hm.kp (thn (ha.run pos pins s1 σ H1 _ I1 q) fun us s2 ⟨vs, H2, I2, r, q2⟩ => ⟨I2.kIn, ?_⟩) hst hpl
  exact run_fnS (us := .ref a :: us) (vs := .ref a :: vs) F hr hb (hx σ) I2 (.cons rfl r) q2
theorem pe_methA0 {pl : Sem Bool} (he : PE X o ta) (c : Cls X.K C) (hm : Meth X.K C m f) (F : FnOk X.prog X.w X.K X.mg X.base CX k f fd ps sp) (hr : Room k X.A) (hb : Binds X.K fd ps []) (hx : ∀ σ, PassesAt CX X σ (E σ))
    (ht : eval (.Call (.Attribute o m apos) [] [] pos) X.env = (do
      let ov ← eval o X.env
      standAt apos.atName
      let (f, first) ← holding [ov] (getMethod ov m pl)
      callWith pos f first (backTo pos (starEach [] X.env)) (backToKw pos (keywordEach [] X.env))) := by rfl) :
    PE X (.Call (.Attribute o m apos) [] [] pos) (tMethA C m sp E ta tNil) := by
  refine ⟨fun pins s σ H Q I h => ?_⟩
  refine PySem.W.methodCall_KW (pl := pl) (thn (he.run pins s σ H _ I h) fun u s1 ⟨x, H1, I1, rx, a, dx, fs, ex, ea, l, q⟩ => ?_) ht
  subst ex
  obtain rfl : u = Value.ref a := rx
  refine getmeth_ok I1 ea c hm l ?_
  exact PySem.W.callWith_K0 (first := [.ref a]) I1.kIn hm.kp (run_fnS (us := [.ref a]) (vs := [.ref a]) F hr hb (hx σ) I1 (.cons rfl .nil) q)
end
section
variable {X : Cx} {C : Nat → Addr} {W : WX} {o e : Expr} {es : List Expr} {fo : EF} {f : AF} {m : Str} {apos pos : Pos} {c n k j : Nat} {fn : Fn}
theorem meth_imp {C' : Addr} {σ : St} {H : Hp} {Q : VK} (hC : C' = C c) (h : tE X.K C W (methF c n fn m fo f) σ H Q) : tMethA C' m (FnD X.K C n fn) (fun σ cls d H => W cls d σ H) (tE X.K C W fo) (tA X.K C W f) σ H Q := by
  obtain ⟨w, st, O, ρ, rel, h⟩ := h
  refine ⟨w, st, O, ρ, rel, (Out.bnd h).mono fun w1 H1 d st1 g1 k1 h1 v rv => ?_⟩
  cases e2 : obIx d with
  | none => simp only [e2] at h1; exact h1.elim
  | some i =>
    simp only [e2] at h1
    have e3 := obIx_of e2
    subst e3
    obtain ⟨b, rfl, hb⟩ := rv.inO
    cases e5 : st1[i]? with
    | none => rw [e5] at h1; exact h1.elim
    | some ob =>
      rw [e5] at h1
      cases ob with
      | ins c' fs =>
        simp only at h1
        by_cases hcc : c' = c ∧ fs.lookup m = none
        · rw [if_pos hcc] at h1
          obtain ⟨rfl, hl⟩ := hcc
          obtain ⟨dx, fq, vs, hp, h3, h4, z, h5⟩ := ob_ins k1 hb e5
          have hl2 : vs.lookup m = none := by
            rcases flsLook (f := m) h5 with ⟨_, q2⟩ | ⟨fl, u, fq', q1, q2, q3⟩
            · exact q2
            · rw [hl] at q1; cases q1
          refine ⟨b, dx, vs, rfl, by rw [hC]; exact h3, hl2, w1, st1, O, ρ, rel.grow g1 k1, (Out.bnd h1).mono fun w2 H2 ds st2 g2 k2 h2 us ru => ?_⟩
          by_cases hn : (D.ob i :: ds).length = n
          · rw [if_pos hn] at h2
            refine ⟨w2, st2, D.ob i :: ds, k2, .cons (rv.le (g2.le X.K C)) ru, hn, ?_⟩
            revert h2
            cases fn (D.ob i :: ds) st2 with
            | ok d st3 => exact fun h v w' H' g k r => h w' H' g k v r
            | err c st3 => exact fun h => h
            | bad => exact fun h => h
          · rw [if_neg hn] at h2; exact h2.elim
        · rw [if_neg hcc] at h1; exact h1.elim
      | _ => exact h1.elim
theorem de_meth {pl : Sem Bool} (g : G X C W j) (F : HasM X.prog X.w X.K X.mg X.base C c m n k fn) (hk : k ≤ j) (ho : DE X C W fo o) (ha : DA X C W f (e :: es))
    (hst : starEach (e :: es) X.env = (false, eval e X.env) :: starEach es X.env := by rfl) (hpl : (backTo pos (starEach es X.env)).any (·.1) = false := by rfl)
    (ht : eval (.Call (.Attribute o m apos) (e :: es) [] pos) X.env = (do
      let ov ← eval o X.env
      standAt apos.atName
      let (f, first) ← holding [ov] (getMethod ov m pl)
      callWith pos f first (backTo pos (starEach (e :: es) X.env)) (backToKw pos (keywordEach [] X.env))) := by rfl) :
    DE X C W (methF c n fn m fo f) (.Call (.Attribute o m apos) (e :: es) [] pos) := by
  obtain ⟨a, fd, ps, F, hc, hm, hb⟩ := F.ex
  exact PE.imp (pe_methA (E := fun σ cls d H => W cls d σ H) ho hc hm F (g.room.mono hk) hb (fun σ => g.pass σ) ha hst hpl ht) fun σ H Q h => meth_imp rfl h
theorem de_meth0 {pl : Sem Bool} (g : G X C W j) (F : HasM X.prog X.w X.K X.mg X.base C c m n k fn) (hk : k ≤ j) (ho : DE X C W fo o)
    (ht : eval (.Call (.Attribute o m apos) [] [] pos) X.env = (do
      let ov ← eval o X.env
      standAt apos.atName
      let (f, first) ← holding [ov] (getMethod ov m pl)
      callWith pos f first (backTo pos (starEach [] X.env)) (backToKw pos (keywordEach [] X.env))) := by rfl) :
    DE X C W (methF c n fn m fo aNil) (.Call (.Attribute o m apos) [] [] pos) := by
  obtain ⟨a, fd, ps, F, hc, hm, hb⟩ := F.ex
  refine PE.imp (pe_methA0 (E := fun σ cls d H => W cls d σ H) ho hc hm F (g.room.mono hk) hb (fun σ => g.pass σ) ht) fun σ H Q h => ?_
  have := meth_imp (X := X) (W := W) rfl h
  unfold tMethA at this ⊢
  obtain ⟨w, st, O, ρ, rel, h2⟩ := this
  refine ⟨w, st, O, ρ, rel, h2.mono fun w1 H1 d st1 g1 k1 h3 v rv => ?_⟩
  obtain ⟨a', dx, fs, q1, q2, q3, w2, st2, O2, ρ2, rel2, q4⟩ := h3 v rv
  refine ⟨a', dx, fs, q1, q2, q3, ?_⟩
  exact Out.here q4 rel2.ok [] .nil
end
end BF

/-! BF31: instances made: C(..). -/
namespace BF
open PySem L2

section
variable {K : PySem.W.Frag} {C : Nat → Addr} {w w0 : Wd} {st : Sto} {H H0 : Hp} {fp : List Addr} {o : Ob}
theorem get_app1 {α β : Type} {f : α → β} {xs : List α} {y : α} : ((xs ++ [y]).map f)[xs.length]? = some (f y) := by
  rw [List.map_append, List.getElem?_append_right (by rw [List.length_map]; exact Nat.le_refl _), List.length_map]; simp
theorem side_of {α : Type} {xs : List α} {y : α} {i : Nat} {z : α} (h : (xs ++ [y])[i]? = some z) : (i < xs.length ∧ xs[i]? = some z) ∨ (i = xs.length ∧ z = y) := by
  by_cases hl : i < xs.length
  · rw [List.getElem?_append_left hl] at h; exact .inl ⟨hl, h⟩
  · rw [List.getElem?_append_right (by omega)] at h
    obtain ⟨q, e⟩ := List.getElem?_eq_some_iff.mp h
    simp at q
    refine .inr ⟨by omega, ?_⟩
    have : i - xs.length = 0 := by omega
    simp [this] at e
    exact e.symm
theorem Ok.addPs (k : Ok K C w st H) (hF : ∀ a ∈ fp, w.F a = none ∧ ¬ w.In a) (nd : fp.Nodup) (ho : ObOk (w.env K C) H fp o) : Ok K C ⟨w.F, w.P ++ [fp]⟩ (st ++ [o]) H := by
  have hle : (w.env K C).le ((⟨w.F, w.P ++ [fp]⟩ : Wd).env K C) := ⟨rfl, rfl, fun _ _ h => h, fun i a h => by
    show (List.map _ (w.P ++ [fp]))[i]? = some a
    rw [List.map_append]
    exact get_app h⟩
  refine ⟨k.sub, fun a h => ?_, fun fq h => ?_, fun i j fq fr a h1 h2 h3 h4 => ?_, by simp [k.len], fun i fq ob h1 h2 => ?_⟩
  · obtain ⟨fq, hm, ha⟩ := h
    rcases List.mem_append.mp hm with hm | hm
    · exact k.dj a ⟨fq, hm, ha⟩
    · rw [List.mem_singleton.mp hm] at ha
      exact (hF a ha).1
  · rcases List.mem_append.mp h with hm | hm
    · exact k.nd fq hm
    · rw [List.mem_singleton.mp hm]; exact nd
  · rcases side_of h1 with ⟨l1, e1⟩ | ⟨l1, e1⟩
    · rcases side_of h2 with ⟨l2, e2⟩ | ⟨l2, e2⟩
      · exact k.ndd i j fq fr a e1 e2 h3 h4
      · subst e2
        exact ((hF a h4).2 ⟨fq, List.mem_of_getElem? e1, h3⟩).elim
    · subst e1
      rcases side_of h2 with ⟨l2, e2⟩ | ⟨l2, e2⟩
      · exact ((hF a h3).2 ⟨fr, List.mem_of_getElem? e2, h4⟩).elim
      · omega
  · rcases side_of h1 with ⟨l1, e1⟩ | ⟨l1, e1⟩
    · rcases side_of h2 with ⟨l2, e2⟩ | ⟨l2, e2⟩
      · exact (k.obs i fq ob e1 e2).le hle fun _ _ _ h => h
      · have := k.len; omega
    · rcases side_of h2 with ⟨l2, e2⟩ | ⟨l2, e2⟩
      · have := k.len; omega
      · rw [e1, e2]; exact ho.le hle fun _ _ _ h => h
theorem Grow.addPs (g : Grow w0 H0 w H) (h0 : ∀ a ∈ fp, H0 a = none) : Grow w0 H0 ⟨w.F, w.P ++ [fp]⟩ H where
  ext := g.ext
  newF := g.newF
  newP := fun a h => by
    obtain ⟨fq, hm, ha⟩ := h
    rcases List.mem_append.mp hm with hm | hm
    · exact g.newP a ⟨fq, hm, ha⟩
    · rw [List.mem_singleton.mp hm] at ha
      exact .inr (h0 a ha)
  keep := g.keep
  mono := g.mono
  pre := fun i a h => by
    show (List.map _ (w.P ++ [fp]))[i]? = some a
    rw [List.map_append]
    exact get_app (g.pre i a h)
end
/-- the class can be made: its __init__ -/
structure HasC (P : Program) (wo : World) (K : PySem.W.Frag) (mg : Str → Option Value) (base : Heap) (C : Nat → Addr) (c : Nat) (x : Str) (n k : Nat) (fn : Fn) : Prop where
  ex : ∃ (f : Addr) (fd : FuncData) (ps : List Str), FnOk P wo K mg base (L2.CX P wo) k f fd ps (FnD K C n fn) ∧ Mk K (C c) f ∧ mg x = some (.ref (C c)) ∧ Binds K fd ps []
def mkF (c n : Nat) (fn : Fn) (f : AF) : EF := fun ρ st => (f ρ st).bnd fun ds st1 => if ds.length + 1 = n then (match fn (D.ob st1.length :: ds) (st1 ++ [.ins c []]) with
  | .ok .none st' => .ok (D.ob st1.length) st'
  | .err e st' => .err e st'
  | _ => .bad) else .bad
section
variable {X : Cx} {CX : CXT} {k : Nat} {f C : Addr} {fd : FuncData} {ps : List Str} {sp : Sp} {E : St → XK} {x : Str} {p pos : Pos} {e : Expr} {es : List Expr} {t : TA}
def tMakeA (C : Addr) (sp : Sp) (E : St → XK) (t : TA) : TE := fun σ H Q => t σ H fun vs H1 => ∀ x dx, H1 x = none → H1 dx = none → dx ≠ x →
  sp (.ref x :: vs) (upd (upd H1 dx (.own x)) x (.ins C dx [])) (fun v H2 => v = .non ∧ Q (.ref x) H2) (E σ)
theorem run_makeA {pins : List (Addr × Obj)} {σ : St} {H : Hp} {s : Shared} {Q : VK} {us : List Value} {vs : List V} (M : Mk X.K C f) (F : FnOk X.prog X.w X.K X.mg X.base CX k f fd ps sp) (hr : Room (k + 1) X.A) (hb : Binds X.K fd ps [])
    (hx : PassesAt CX X σ (E σ)) (I : Inv X pins σ H s) (r : Vals vs us)
    (h : ∀ x dx, H x = none → H dx = none → dx ≠ x → sp (.ref x :: vs) (upd (upd H dx (.own x)) x (.ins C dx [])) (fun v H2 => v = .non ∧ Q (.ref x) H2) (E σ)) :
    wpAny (model X.prog X.w) X.A (call (.ref C) us) (EP X pins σ Q) X.xe s := by
  have hq := h (s.heap.objs.size + 1) s.heap.objs.size (I.hok.fresh (Nat.le_succ _)) (I.hok.fresh (Nat.le_refl _)) (Nat.ne_of_lt (Nat.lt_succ_self _))
  have I2 := Inv.made (C := C) I
  have r2 : Vals (V.ref (s.heap.objs.size + 1) :: vs) (Value.ref (s.heap.objs.size + 1) :: us) := .cons rfl r
  have hl : (Value.ref (s.heap.objs.size + 1) :: us).length = ps.length := by
    have e := r2.length
    rw [F.len _ _ _ _ hq] at e
    exact e.symm
  have hb2 := hb _ (Value.ref (s.heap.objs.size + 1) :: us) I2.kIn (by rw [List.append_nil]; exact hl)
  rw [List.append_nil] at hb2
  refine wpAny_call (make_map (f := f) I.kIn M.makes M.init (beq_iff_eq.mp M.fn) (codeAny_mono (F.run _ X.stack _ _ ⟨Value.ref (s.heap.objs.size + 1) :: us, []⟩ (Value.ref (s.heap.objs.size + 1) :: us) _ _ (E σ) (hr.make C us [])
    (I2.env0.make C us []) hb2 r2 hq) fun r s' hq' => ?_))
  cases r with
  | error e => exact hx pins _ _ e s' I2 hq'
  | ok fl =>
    cases fl with
    | ret u =>
      obtain ⟨v, H', I3, rv, ev, q3⟩ := I2.after hq'
      subst ev
      exact ⟨rv, ⟨V.ref (s.heap.objs.size + 1), H', I3, rfl, q3⟩⟩
    | next => exact False.elim hq'
    | brk => exact False.elim hq'
    | cont => exact False.elim hq'
theorem pe_makeA (M : Mk X.K C f) (F : FnOk X.prog X.w X.K X.mg X.base CX k f fd ps sp) (hr : Room (k + 1) X.A) (hg : Gl X x) (hm : X.mg x = some (.ref C)) (hb : Binds X.K fd ps []) (hx : ∀ σ, PassesAt CX X σ (E σ))
    (ha : PA X (e :: es) t) (hdb : (x == ("__debug__" : Str)) = false := by decide) (he : starEach (e :: es) X.env = (false, eval e X.env) :: starEach es X.env := by rfl) (hpl : (backTo pos (starEach es X.env)).any (·.1) = false := by rfl) :
    PE X (.Call (.Name x p) (e :: es) [] pos) (tMakeA C sp E t) := by
  refine ⟨fun pins s σ H Q I h => ?_⟩
  refine wpAny_Call_Name_kw (ld_glob I hg hm ?_ hdb)
  refine PySem.W.callWith_K (h₀ := X.base) I.ok.mod.kin M.kp (thn (ha.run pos pins s σ H _ I h) fun us s1 ⟨vs, H1, I1, r, q⟩ => ⟨I1.kIn, ?_⟩) he hpl
  exact run_makeA M F hr hb (hx σ) I1 r q
end
section
variable {X : Cx} {C : Nat → Addr} {W : WX} {e : Expr} {es : List Expr} {f : AF} {x : Str} {p pos : Pos} {c n k j : Nat} {fn : Fn}
theorem de_make (g : G X C W j) (F : HasC X.prog X.w X.K X.mg X.base C c x n k fn) (hk : k + 1 ≤ j) (ha : DA X C W f (e :: es)) (hg : Gl X x := by rfl) (hdb : (x == ("__debug__" : Str)) = false := by decide)
    (h1 : starEach (e :: es) X.env = (false, eval e X.env) :: starEach es X.env := by rfl) (h2 : (backTo pos (starEach es X.env)).any (·.1) = false := by rfl) : DE X C W (mkF c n fn f) (.Call (.Name x p) (e :: es) [] pos) := by
  obtain ⟨a, fd, ps, F, M, hm, hb⟩ := F.ex
  refine PE.imp (pe_makeA (E := fun σ cls d H => W cls d σ H) M F (g.room.mono hk) hg hm hb (fun σ => g.pass σ) ha hdb h1 h2) fun σ H Q h => ?_
  obtain ⟨w, st, O, ρ, rel, h⟩ := h
  refine ⟨w, st, O, ρ, rel, (Out.bnd h).mono fun w1 H1 ds st1 g1 k1 h1 vs rv y dx hy hdx hne => ?_⟩
  by_cases hn : ds.length + 1 = n
  · rw [if_pos hn] at h1
    have n1 := none1 k1 hy
    have n2 := none1 k1 hdx
    have hy2 : upd H1 dx (.own y) y = none := by rw [upd_ne (Ne.symm hne)]; exact hy
    have kA := Ok.raw k1 (o := .own y) hdx
    have kB := Ok.raw kA (o := .ins (C c) dx []) hy2
    have gB := (Grow.raw k1 (o := .own y) hdx).trans (Grow.raw kA (o := .ins (C c) dx []) hy2)
    have k2 : Ok X.K C ⟨w1.F, w1.P ++ [[y, dx]]⟩ (st1 ++ [.ins c []]) (upd (upd H1 dx (.own y)) y (.ins (C c) dx [])) := kB.addPs (fun b hb => by
      simp only [List.mem_cons, List.not_mem_nil, or_false] at hb
      rcases hb with rfl | rfl
      · exact n1
      · exact n2) (by simp [Ne.symm hne]) ⟨y, dx, [], [], rfl, upd_same, by rw [upd_ne hne]; exact upd_same, Nat.zero_le _, .nil⟩
    have g2 : Grow w1 H1 ⟨w1.F, w1.P ++ [[y, dx]]⟩ (upd (upd H1 dx (.own y)) y (.ins (C c) dx [])) := gB.addPs fun b hb => by
      simp only [List.mem_cons, List.not_mem_nil, or_false] at hb
      rcases hb with rfl | rfl
      · exact hy
      · exact hdx
    have hR : (⟨w1.F, w1.P ++ [[y, dx]]⟩ : Wd).R[st1.length]? = some y := by
      rw [← k1.len]; exact get_app1
    refine ⟨_, _, D.ob st1.length :: ds, k2, .cons (.ob hR) (rv.le (g2.le X.K C)), by simpa using hn, ?_⟩
    revert h1
    cases fn (D.ob st1.length :: ds) (st1 ++ [.ins c []]) with
    | ok d st2 =>
      cases d with
      | none =>
        intro h v w' H' g k r
        have ev : v = .non := by cases r; rfl
        exact ⟨ev, h w' H' (g2.trans g) k _ (.ob (g.pre _ _ hR))⟩
      | _ => exact fun h => h.elim
    | err c st2 => exact fun h w' H' g k => h w' H' (g2.trans g) k
    | bad => exact fun h => h.elim
  · rw [if_neg hn] at h1; exact h1.elim
end
end BF

/-! BF32: methods, classes by the head's facts. -/
namespace BF
open PySem L2
section
variable {P : Program} {wo : World} {K : PySem.W.Frag} {mg : Str → Option Value} {base : Heap} {C : Nat → Addr} {c : Nat} {m x qual : Str} {st : Stmt} {f : Addr} {fd : FuncData} {N ps : List Str} {k : Nat} {body : SF}
theorem fn_okM (F : FunD K x qual (defArgs st) (defBody st) (defScope st) [] [] f fd) (S : FnScope N ps (defScope st))
    (hbody : ∀ (cdv : Value) (A : Around) (outer : List Env) (s : Shared) (H : Hp) (E : XK), G (cxOf (L2.CX P wo) P wo K mg base N qual (defScope st) f cdv A outer s H E) C (fun cls d _ H => E cls d H) k →
      DSs (cxOf (L2.CX P wo) P wo K mg base N qual (defScope st) f cdv A outer s H E) C (fun cls d _ H => E cls d H) body (defBody st)) : FnOk P wo K mg base (L2.CX P wo) (k + 1) f fd ps (FnD K C ps.length (fnB N.length body)) := fn_mk F S hbody
theorem hasM_mk (F : FunD K x qual (defArgs st) (defBody st) (defScope st) [] [] f fd) (hc : Cls K (C c)) (hm : Meth K (C c) m f) (S : FnScope N ps (defScope st))
    (hb : ∀ (dc pm : Value) (an : Option Addr) (cdv ct kV : Value) (us : List Value), us.length = ps.length → bindArgs (PySem.W.fnOf x qual (defArgs st) (defBody st) (defScope st) .none kV dc pm an cdv ct) ⟨us, []⟩ = pure (ps.zip us))
    (hbody : ∀ (cdv : Value) (A : Around) (outer : List Env) (s : Shared) (H : Hp) (E : XK), G (cxOf (L2.CX P wo) P wo K mg base N qual (defScope st) f cdv A outer s H E) C (fun cls d _ H => E cls d H) k →
      DSs (cxOf (L2.CX P wo) P wo K mg base N qual (defScope st) f cdv A outer s H E) C (fun cls d _ H => E cls d H) body (defBody st)) : HasM P wo K mg base C c m ps.length (k + 1) (fnB N.length body) :=
  ⟨f, fd, ps, fn_mk F S hbody, hc, hm, F.bindsN fun a b c d e g us hl => hb b c d e g a us hl⟩
theorem hasC_mk (F : FunD K "__init__" qual (defArgs st) (defBody st) (defScope st) [] [] f fd) (M : Mk K (C c) f) (hm : mg x = some (.ref (C c))) (S : FnScope N ps (defScope st))
    (hb : ∀ (dc pm : Value) (an : Option Addr) (cdv ct kV : Value) (us : List Value), us.length = ps.length → bindArgs (PySem.W.fnOf "__init__" qual (defArgs st) (defBody st) (defScope st) .none kV dc pm an cdv ct) ⟨us, []⟩ = pure (ps.zip us))
    (hbody : ∀ (cdv : Value) (A : Around) (outer : List Env) (s : Shared) (H : Hp) (E : XK), G (cxOf (L2.CX P wo) P wo K mg base N qual (defScope st) f cdv A outer s H E) C (fun cls d _ H => E cls d H) k →
      DSs (cxOf (L2.CX P wo) P wo K mg base N qual (defScope st) f cdv A outer s H E) C (fun cls d _ H => E cls d H) body (defBody st)) : HasC P wo K mg base C c x ps.length (k + 1) (fnB N.length body) :=
  ⟨f, fd, ps, fn_mk F S hbody, M, hm, F.bindsN fun a b c d e g us hl => hb b c d e g a us hl⟩
end
end BF

/-! BF33: text.index(sign); a block that is never reached. -/
namespace BF
open PySem L2

def gSIndex : D → D → Option D
  | .str a, .str b => match Builtin.Str.occurrences a b 0 a.length 1 with
    | i :: _ => some (.int (i : Nat))
    | [] => none
  | _, _ => none
section
variable {X : Cx} {C : Nat → Addr} {W : WX} {o a : Expr} {fo fa : EF} {apos pos : Pos} {ss : List Stmt}
theorem de_sindex (ho : DE X C W fo o) (ha : DE X C W fa a) (hs : starEach [a] X.env = [(false, eval a X.env)] := by rfl) (hbase : attributeBase o "index" X.env (eval o X.env) = eval o X.env := by rfl) (hline : (apos.endLine == pos.line) = true := by rfl) :
    DE X C W (methS gSIndex fo fa) (.Call (.Attribute o "index" apos) [a] [] pos) :=
  PE.imp (pe_m1 F.slot_str_index F.type_str_index mt_sindex ho ha hs hbase hline) fun σ H Q ⟨w, st, O, ρ, rel, h⟩ => by
    refine ⟨w, st, O, ρ, rel, (Out.bnd h).mono fun w1 H1 x st1 g1 k1 h1 v rv => ?_⟩
    cases x with
    | str z =>
      cases rv.inS
      refine ⟨⟨z, rfl⟩, w1, st1, O, ρ, rel.grow g1 k1, (Out.bnd h1).mono fun w2 H2 y st2 g2 k2 h2 u ru => ?_⟩
      cases y with
      | str b =>
        cases ru.inS
        simp only [gSIndex] at h2
        cases e : Builtin.Str.occurrences z b 0 z.length 1 with
        | nil => rw [e] at h2; exact h2.elim
        | cons i rest =>
          rw [e] at h2
          exact ⟨z, b, i, rest, rfl, rfl, e, Out.here h2 k2 _ (.int _)⟩
      | _ => exact h2.elim
    | _ => exact h1.elim
theorem dss_bad : DSs X C W badS ss := fun w0 H0 N0 => ⟨fun pins sh σ H D I ⟨_, _, _, _, _, h⟩ => h.elim⟩
end
end BF

/-! BF34: sets of texts: set(x), x a list of texts or a text; then sorted. -/
namespace BF
open PySem L2 PySem.Spec PyProof.Rows

/-! ### the set -/
/-- the set at a: the texts l, each once -/
def SX (P : Program) (w : World) (h : Heap) (a : Addr) (l : List Str) : Prop := ∃ (es : Array (Int × Value)) (ep : Nat) (t : SetTable),
  h.get? a = some (Froz.sObj "set" (es, ep, t)) ∧ Froz.TxOk P w (es, ep, t) l ∧ Ris t.place.toList ∧ (w.params.followText "set-order" = true ∨ t.led = true) ∧ l.Nodup
section
variable {P : Program} {w : World} {A : Around} {E : Value → Shared → Prop} {s : Shared}
theorem SX.at {h h' : Heap} {a : Addr} {l : List Str} (F : SX P w h a l) (k : ∀ o, h.get? a = some o → h'.get? a = some o) : SX P w h' a l := by
  obtain ⟨es, ep, t, ho, r⟩ := F; exact ⟨es, ep, t, k _ ho, r⟩
theorem addTx_ris {h : Int} {v : Value} {es : Array (Int × Value)} {ep : Nat} {t : SetTable} (r : Ris t.place.toList) : Ris (Froz.addTx h v (es, ep, t)).2.2.place.toList ∧ (Froz.addTx h v (es, ep, t)).2.2.led = t.led := by
  have r1 := layNew_ris t es h v r
  have l1 := layNew_led t es h v
  unfold Froz.addTx Froz.tailTx
  dsimp only
  have key : ∀ (t2 : SetTable) (es1 : Array (Int × Value)) (b : Bool), Ris t2.place.toList → t2.led = t.led →
      Ris (if (!b && t2.tooFull) = true then ((relayAll t2 es1 (SetTable.grown es1.size)).1, ep + 2, (relayAll t2 es1 (SetTable.grown es1.size)).2.1) else (es1, ep + 1, t2) : Froz.SD).2.2.place.toList ∧
      (if (!b && t2.tooFull) = true then ((relayAll t2 es1 (SetTable.grown es1.size)).1, ep + 2, (relayAll t2 es1 (SetTable.grown es1.size)).2.1) else (es1, ep + 1, t2) : Froz.SD).2.2.led = t.led := fun t2 es1 b h1 h2 => by
    split
    · exact ⟨relayAll_ris t2 es1 _, (relayAll_led t2 es1 _).trans h2⟩
    · exact ⟨h1, h2⟩
  refine key _ _ _ ?_ ?_
  · split <;> exact r1
  · split <;> exact l1
/-- a text is put in -/
theorem sx_add {a : Addr} {l : List Str} {k : Str} {u : Tok} {Q : Bool → Shared → Prop} (F : SX P w s.heap a l) (hb : l.length + 1 < scanBound)
    (h : ∀ (h' : Heap) (b : Bool), (∀ x, x ≠ a → ∀ o, s.heap.get? x = some o → h'.get? x = some o) → SX P w h' a (if k ∈ l then l else k :: l) → Q b { s with heap := h' }) :
    wpAny (model P w) A (setAddHashed a (.str k u) (hashStr w k)) Q E s := by
  obtain ⟨es, ep, t, ho, T, r, led, nd⟩ := F
  by_cases hk : k ∈ l
  · rw [if_pos hk] at h
    have hd : (Froz.sObj "set" (es, ep, t)).data = .set es ep t := rfl
    have hf : t.fits es.size = true := T.fit
    have hel : ElemsOf (PySem.strKind P w) es.toList := T.el
    have hz : es.size = l.length := T.sz
    have hkey : (PySem.strKind P w).is k (.str k u) = true := Froz.is_str k u
    unfold setAddHashed setAddHashedIn
    refine wpAny_holding (wpAny_bind (wpAny_setState_of ho hd hf ?_)); dsimp only
    rw [byScan_of rfl (by omega) hel]; simp only [↓reduceIte]
    unfold setAddByScan
    refine wpAny_bind ?_; refine wpAny_bind (wpAny_rule ?_); refine wpAny_bind (wpAny_setScan_of (knd := PySem.strKind P w) (k := k) hkey ho hd hf hel ?_)
    cases hr : List.findIdx? (fun e => (PySem.strKind P w).is k e.2) es.toList with
    | some j => exact wpAny_pure (wpAny_pure (h s.heap _ (fun _ _ _ q => q) ⟨es, ep, t, ho, T, r, led, nd⟩))
    | none =>
      obtain ⟨e, he, q⟩ := (T.mem k).mp hk
      have c := List.findIdx?_eq_none_iff.mp hr e he
      rw [q] at c; cases c
  · rw [if_neg hk] at h
    refine Froz.add_x ho T hk hb ?_
    obtain ⟨r2, l2⟩ := addTx_ris (h := hashStr w k) (v := .str k u) (es := es) (ep := ep) r
    refine h _ _ (fun x hx o q => PySem.Heap.get?_update_of_ne _ (Ne.symm hx) q) ⟨_, _, _, Froz.get_upd _ ho rfl, Froz.add_ok u T, r2, led.imp id fun z => l2.trans z, List.nodup_cons.mpr ⟨hk, nd⟩⟩
/-- what a set holds behind the puts of xs -/
def putsX (xs : List Str) (l : List Str) : List Str := xs.foldl (fun l k => if k ∈ l then l else k :: l) l
theorem putsX_len : ∀ (xs l : List Str), (putsX xs l).length ≤ l.length + xs.length
  | [], l => Nat.le_refl _
  | x :: xs, l => by
    have := putsX_len xs (if x ∈ l then l else x :: l)
    show (putsX xs (if x ∈ l then l else x :: l)).length ≤ _
    rw [List.length_cons]
    split at this
    · rename_i h; rw [if_pos h]; omega
    · rename_i h; rw [if_neg h]; simp at this; omega
theorem putsX_mem {z : Str} : ∀ (xs l : List Str), z ∈ putsX xs l ↔ z ∈ l ∨ z ∈ xs
  | [], l => by simp [putsX]
  | x :: xs, l => by
    show z ∈ putsX xs (if x ∈ l then l else x :: l) ↔ _
    rw [putsX_mem xs]
    split
    · rename_i h
      constructor
      · rintro (q | q)
        · exact .inl q
        · exact .inr (by simp [q])
      · rintro (q | q)
        · exact .inl q
        · rcases List.mem_cons.mp q with rfl | q
          · exact .inl h
          · exact .inr q
    · simp only [List.mem_cons]
      constructor
      · rintro ((q | q) | q)
        · exact .inr (.inl q)
        · exact .inl q
        · exact .inr (.inr q)
      · rintro (q | q | q)
        · exact .inl (.inr q)
        · exact .inl (.inl q)
        · exact .inr q
theorem sx_loop {I : Addr} {fp wr : List Addr} {G : Array GenState → Array GenState → Prop} {n : Nat} {Pv : Nat → Value → Prop} {St : Nat → Shared → Prop} {R : Result → Shared → Prop}
    (W : WalksS P w A.in1 I fp wr G n Pv St) (S : Addr) (hSf : S ∉ fp) (hval : ∀ i v, Pv i v → ∃ k t, v = .str k t) (xs : List Str) (hat : ∀ i v, i < n → Pv i v → ∃ k t, xs[i]? = some k ∧ v = .str k t) (hn : n = xs.length) (hb : xs.length + 1 < scanBound) :
    ∀ (k i : Nat) (s : Shared), n - i = k → i ≤ n → St i s → SX P w s.heap S (putsX (xs.take i) []) →
      (∀ s', Moved (S :: wr) G s s' → SX P w s'.heap S (putsX xs []) → R (.ok (.ret .none)) s') →
      codeAny (model P w) A (.builtin "set.update.loop" ⟨[.ref S, .ref I], []⟩) R s := by
  have hSw : S ∉ wr := fun h => hSf (W.sub _ h)
  have hsub : ∀ b ∈ wr, b ∈ S :: wr := fun b hb => List.mem_cons_of_mem _ hb
  intro k
  induction k with
  | zero =>
    intro i s hk hi hst hS hR
    obtain rfl : i = n := by omega
    refine codeAny_builtin F.entry_set_update_loop ?_; rw [Around.under_plainId F.plain_set_update_loop _]
    show wpAny _ A.in1 (pyNext (.ref I) >>= _) _ _ s
    refine wpAny_bind (W.done s _ _ hst fun s' hm => ?_)
    show wpAny _ A.in1 (ret Value.none) _ _ s'
    rw [List.take_of_length_le (by omega)] at hS
    exact wpAny_pure (hR s' (hm.mono hsub) (hS.at fun o e => hm.heap S o hSw e))
  | succ k ih =>
    intro i s hk hi hst hS hR
    have hlt : i < n := by omega
    refine codeAny_builtin F.entry_set_update_loop ?_; rw [Around.under_plainId F.plain_set_update_loop _]
    show wpAny _ A.in1 (pyNext (.ref I) >>= _) _ _ s
    refine wpAny_bind (W.item i s _ _ hlt hst fun v s' hP hst' hm => ?_)
    obtain ⟨z, t, hz, rfl⟩ := hat i v hlt hP
    have hS' := hS.at (h' := s'.heap) fun o e => hm.heap S o hSw e
    show wpAny _ A.in1 (holding [Value.str z t] (setAdd S (.str z t)) >>= _) _ _ s'
    refine wpAny_bind (wpAny_holding ?_); unfold setAdd
    refine wpAny_holding ?_; refine wpAny_bind ((PySem.strKind P w).pyHash (k := z) (Froz.is_str z t) ?_)
    have hl := putsX_len (xs.take i) []
    rw [List.length_take] at hl
    simp only [List.length_nil] at hl
    refine sx_add (s := { s' with toks := s'.toks + 1 }) hS' (by omega) fun h' b hsb hS2 => ?_
    have e : putsX (xs.take (i + 1)) [] = if z ∈ putsX (xs.take i) [] then putsX (xs.take i) [] else z :: putsX (xs.take i) [] := by
      rw [List.take_add_one, hz]
      show putsX (xs.take i ++ [z]) [] = _
      unfold putsX
      rw [List.foldl_append]; rfl
    rw [← e] at hS2
    refine wpAny_pure ⟨plainId_quiet F.plain_set_update_loop _, ih (i + 1) _ (by omega) hlt (W.frame _ s' _ _ hst' (Nat.le_succ _) fun b hb o e => ?_) hS2 fun s'' hm'' hS'' => ?_⟩
    · exact hsb b (fun h : b = S => hSf (by rw [← h]; exact hb)) o e
    · refine hR s'' (Moved.trans W.gtrans ((hm.mono hsub).then_heap (Nat.le_succ _) fun b o hb e => ?_) hm'') hS''
      exact hsb b (fun h : b = S => hb (by rw [h]; exact List.mem_cons_self)) o e
theorem sx_fresh {h : Heap} {a : Addr} (ho : h.get? a = some (em0 w)) : SX P w h a [] :=
  ⟨#[], 0, _, ho, Froz.TxOk.nil (by rfl), List.Pairwise.nil, by
    show _ ∨ (!w.params.followText "set-order") = true
    cases w.params.followText "set-order"
    · exact .inr rfl
    · exact .inl rfl, .nil⟩
end

/-! ### set(x) -/
section
variable {P : Program} {w : World} {A : Around} {E : Value → Shared → Prop} {s : Shared}
theorem call_setXL {l : Addr} {items : Array Value} (xs : List Str) {Q : Value → Shared → Prop} (hn : A.handled = none) (hl : s.heap.IsList l items) (hit : StrsAre items.toList xs) (hb : xs.length + 1 < scanBound)
    (h : ∀ (h' : Heap) (tk : Nat), SX P w h' s.heap.objs.size (putsX xs []) → (∀ b o, s.heap.get? b = some o → h'.get? b = some o) → Q (.ref s.heap.objs.size) { s with heap := h', toks := tk }) :
    wpAny (model P w) A (call (.type "set") [.ref l]) Q E s := by
  have hz : items.size = xs.length := by have q := StrsAre.length hit; rwa [Array.length_toList] at q
  obtain ⟨c, tl, mro⟩ := F.called_set.mro
  have f1 := F.called_set.made; have f2 := F.called_set.sub; have f3 := F.called_set.notType; have f4 := F.called_set.canCreate; have f5 := F.typeCall_set_1 (.ref l)
  refine wpAny_call (codeAny_of_tree ?_); show wpAny _ _ (callAny (.type "set") _) _ _ _
  refine wpAny_pure ⟨Code.quiet_builtin _ (by decide +kernel), codeAny_builtin F.entry_type_call ?_⟩; rw [Around.under_plain (weight_type_call_type "set" [.ref l] []) rfl]
  repeat (any_goals (first | assumption | wp_step))
  refine codeAny_mono (code_set_led1 (.ref l) (E := E) (Q₁ := fun o s1 => o = .ref s.heap.objs.size ∧ s1 = { s with heap := hp1 w s }) ⟨rfl, rfl⟩) fun r s1 hr => ?_
  cases r with
  | error e => exact hr
  | ok fl =>
    cases fl with
    | ret o =>
      obtain ⟨rfl, rfl⟩ := hr
      have g0 : (hp1 w s).get? s.heap.objs.size = some (em0 w) := Heap.get?_push_size _ rfl
      have ty : Shared.TypeIs { s with heap := hp1 w s } (.ref s.heap.objs.size) "set" := ⟨_, g0, rfl⟩
      have i1 := F.called_set.init.lookup; have i2 := F.called_set.init.bind (.ref s.heap.objs.size)
      repeat (any_goals (first | assumption | wp_step))
      refine codeAny_mono (codeAny_call_builtin (R := wants (fun r s2 => r = .none ∧ ∃ h' tk, s2 = { s with heap := h', toks := tk } ∧ SX P w h' s.heap.objs.size (putsX xs []) ∧ (∀ b o, s.heap.get? b = some o → h'.get? b = some o)) E)
        F.called_set.init.plain F.entry_set_init (check_set_init_1 ty ?_)) fun r2 s2 hr2 => ?_
      · obtain ⟨⟨oc, od, dt, sl⟩, ol, hc, nl, hd⟩ := hl
        simp only at hc hd; subst hc hd
        have ol1 : (hp1 w s).get? l = some { cls := .type "list", dict := od, data := .seq items nl, slots := sl } := Heap.get?_push_of_some _ ol
        have j1 := F.sub_list_set; have j2 := F.sub_list_frozenset; have j3 : (Value.type "list" == Value.type "dict") = false := by decide
        have l1 : (hp1 w s).IsList l items := ⟨_, ol1, rfl, nl, rfl⟩
        unfold Builtin.«set.__init__» noKeywords Builtin.Frozenset.updateFrom
        generalize hPI : pyIter = PI
        wp_walk
        subst hPI
        refine wpAny_pyIter_list l1 ?_; refine wpAny_bind (wpAny_runValue ?_)
        have lt := Heap.lt_size ol
        have z1 : (hp1 w s).objs.size = s.heap.objs.size + 1 := Heap.size_push ..
        have n1 : l ≠ (hp1 w s).objs.size := by rw [z1]; exact Nat.ne_of_lt (Nat.lt_succ_of_lt lt)
        have n2 : s.heap.objs.size ∉ [(hp1 w s).objs.size, l] := by
          rw [z1]; intro q
          rcases List.mem_cons.mp q with q | q
          · exact Nat.ne_of_lt (Nat.lt_succ_self _) q
          · exact Nat.ne_of_gt lt (List.mem_singleton.mp q)
        have hv : ∀ (i : Nat) (v : Value), i < items.size → items[i]? = some v → ∃ k t, xs[i]? = some k ∧ v = .str k t := fun i v _ e => by
          have hi : i < xs.length := by rw [← hz]; exact (Array.getElem?_eq_some_iff.mp e).1
          obtain ⟨t, q⟩ := StrsAre.get hit i xs[i] (List.getElem?_eq_getElem hi)
          rw [Array.getElem?_toList, e] at q
          exact ⟨xs[i], t, List.getElem?_eq_getElem hi, Option.some.inj q⟩
        refine sx_loop ((Walks.list (by simp [hn]) _ l n1 items).toS) s.heap.objs.size n2 (fun i v e => let ⟨k, t, _, q⟩ := hv i v (Array.getElem?_eq_some_iff.mp e).1 e; ⟨k, t, q⟩) xs hv hz hb (items.size - 0) 0 _ (by omega) (Nat.zero_le _) ⟨⟨_, Heap.get?_push_size _ rfl, rfl, rfl⟩, (l1.push _)⟩ ?ha ?hb2
        case ha => exact sx_fresh (Heap.get?_push_of_some _ g0)
        case hb2 =>
          intro s3 m hS3
          obtain ⟨h3, g3, d3, t3, o3⟩ := s3
          have e1 : g3 = s.gens := m.gens
          have e2 : d3 = s.drawn := m.drawn
          have e3 : o3 = s.os := m.os
          subst e1 e2 e3
          show wpAny _ _ _ _ _ _
          refine wpAny_pure ?_
          show wpAny _ _ (ret Value.none) _ _ _
          refine wpAny_pure ⟨rfl, h3, t3, rfl, hS3, fun b o e => m.heap b o ?_ (Heap.get?_push_of_some _ (Heap.get?_push_of_some _ e))⟩
          have lb := Heap.lt_size e
          intro q
          rcases List.mem_cons.mp q with q | q
          · exact Nat.ne_of_lt lb q
          · exact Nat.ne_of_lt (Nat.lt_succ_of_lt lb) ((List.mem_singleton.mp q).trans z1)
      · cases r2 with
        | error e => exact hr2
        | ok f2 =>
          cases f2 with
          | ret r =>
            obtain ⟨rfl, h3, t3, rfl, hS3, kk⟩ := hr2
            repeat (any_goals (first | assumption | wp_step))
            exact h _ _ hS3 kk
          | _ => exact hr2.elim
    | _ => exact hr.elim
end
end BF

/-! BF35: set(text); sorted(set(x)), the members texts: the rule. -/
namespace BF
open PySem L2 PySem.Spec PyProof.Rows

section
variable {P : Program} {w : World} {A : Around} {E : Value → Shared → Prop} {s : Shared}
theorem call_setXT {x : Str} {u : Tok} {Q : Value → Shared → Prop} (hn : A.handled = none) (hb : x.length + 1 < scanBound)
    (h : ∀ (h' : Heap) (tk : Nat), SX P w h' s.heap.objs.size (putsX (x.cps.toList.map fun c => ⟨#[c]⟩) []) → (∀ b o, s.heap.get? b = some o → h'.get? b = some o) → Q (.ref s.heap.objs.size) { s with heap := h', toks := tk }) :
    wpAny (model P w) A (call (.type "set") [.str x u]) Q E s := by
  obtain ⟨c, tl, mro⟩ := F.called_set.mro
  have f1 := F.called_set.made; have f2 := F.called_set.sub; have f3 := F.called_set.notType; have f4 := F.called_set.canCreate; have f5 := F.typeCall_set_1 (.str x u)
  refine wpAny_call (codeAny_of_tree ?_); show wpAny _ _ (callAny (.type "set") _) _ _ _
  refine wpAny_pure ⟨Code.quiet_builtin _ (by decide +kernel), codeAny_builtin F.entry_type_call ?_⟩; rw [Around.under_plain (weight_type_call_type "set" [.str x u] []) rfl]
  repeat (any_goals (first | assumption | wp_step))
  refine codeAny_mono (code_set_led1 (.str x u) (E := E) (Q₁ := fun o s1 => o = .ref s.heap.objs.size ∧ s1 = { s with heap := hp1 w s }) ⟨rfl, rfl⟩) fun r s1 hr => ?_
  cases r with
  | error e => exact hr
  | ok fl =>
    cases fl with
    | ret o =>
      obtain ⟨rfl, rfl⟩ := hr
      have g0 : (hp1 w s).get? s.heap.objs.size = some (em0 w) := Heap.get?_push_size _ rfl
      have ty : Shared.TypeIs { s with heap := hp1 w s } (.ref s.heap.objs.size) "set" := ⟨_, g0, rfl⟩
      have i1 := F.called_set.init.lookup; have i2 := F.called_set.init.bind (.ref s.heap.objs.size)
      repeat (any_goals (first | assumption | wp_step))
      refine codeAny_mono (codeAny_call_builtin (R := wants (fun r s2 => r = .none ∧ ∃ h' tk, s2 = { s with heap := h', toks := tk } ∧ SX P w h' s.heap.objs.size (putsX (x.cps.toList.map fun c => ⟨#[c]⟩) []) ∧ (∀ b o, s.heap.get? b = some o → h'.get? b = some o)) E)
        F.called_set.init.plain F.entry_set_init (check_set_init_1 ty ?_)) fun r2 s2 hr2 => ?_
      · unfold Builtin.«set.__init__» noKeywords Builtin.Frozenset.updateFrom
        have j1 := F.sub_str_set; have j2 := F.sub_str_frozenset; have j3 : (Value.type "str" == Value.type "dict") = false := by decide
        generalize hPI : pyIter = PI
        wp_walk
        subst hPI
        refine wpAny_pyIter_str fun o St W hSt => ?_
        refine wpAny_bind (wpAny_runValue ?_)
        have z1 : (hp1 w s).objs.size = s.heap.objs.size + 1 := Heap.size_push ..
        have n2 : s.heap.objs.size ∉ [(hp1 w s).objs.size] := by
          rw [z1]; intro q
          exact Nat.ne_of_lt (Nat.lt_succ_self _) (List.mem_singleton.mp q)
        have hv : ∀ (i : Nat) (v : Value), i < x.cps.size → SignAt x i v → ∃ k t, (x.cps.toList.map fun c => (⟨#[c]⟩ : Str))[i]? = some k ∧ v = .str k t := fun i v _ ⟨c, t, e, q⟩ => ⟨⟨#[c]⟩, t, by rw [List.getElem?_map, Array.getElem?_toList, e]; rfl, q⟩
        refine sx_loop ((W _ (by simp [hn])).toS) s.heap.objs.size n2 (fun i v ⟨c, t, _, q⟩ => ⟨_, t, q⟩) (x.cps.toList.map fun c => ⟨#[c]⟩) hv (by simp) (by rw [List.length_map]; exact hb) (x.cps.size - 0) 0 _ (by omega) (Nat.zero_le _) hSt ?ha ?hb2
        case ha => exact sx_fresh (Heap.get?_push_of_some _ g0)
        case hb2 =>
          intro s3 m hS3
          obtain ⟨h3, g3, d3, t3, o3⟩ := s3
          have e1 : g3 = s.gens := m.gens
          have e2 : d3 = s.drawn := m.drawn
          have e3 : o3 = s.os := m.os
          subst e1 e2 e3
          show wpAny _ _ _ _ _ _
          refine wpAny_pure ?_
          show wpAny _ _ (ret Value.none) _ _ _
          refine wpAny_pure ⟨rfl, h3, t3, rfl, hS3, fun b o e => m.heap b o ?_ (Heap.get?_push_of_some _ (Heap.get?_push_of_some _ e))⟩
          have lb := Heap.lt_size e
          intro q
          rcases List.mem_cons.mp q with q | q
          · exact Nat.ne_of_lt lb q
          · exact Nat.ne_of_lt (Nat.lt_succ_of_lt lb) ((List.mem_singleton.mp q).trans z1)
      · cases r2 with
        | error e => exact hr2
        | ok f2 =>
          cases f2 with
          | ret r =>
            obtain ⟨rfl, h3, t3, rfl, hS3, kk⟩ := hr2
            repeat (any_goals (first | assumption | wp_step))
            exact h _ _ hS3 kk
          | _ => exact hr2.elim
    | _ => exact hr.elim
end
def SXO (P : Program) (w : World) (a : Addr) (l : List Str) : HO := .ext fun h => SX P w h a l
theorem sxo_new {P : Program} {w : World} {H : Hp} {h : Heap} {a : Addr} {l : List Str} (R : SX P w h a l) : ObjOk P w H h a (SXO P w a l) := by
  have ⟨es, ep, t, ho, _⟩ := R
  exact ⟨R, ⟨_, ho⟩, fun h1 h2 p k => SX.at p k⟩
section
variable {X : Cx}
theorem strs_of_vals : ∀ {us : List Value} {xs : List Str}, Vals (xs.map V.str) us → StrsAre us xs
  | _, [], .nil => .nil
  | _, x :: xs, .cons r rs => by
    obtain ⟨t, rfl⟩ := r
    exact .cons _ t (strs_of_vals rs)
def rSetX (K : PySem.W.Frag) (P : Program) (w : World) : List V → Hp → VK → Prop := fun xs H Q => ((∃ (l : Addr) (ss : List Str), xs = [V.ref l] ∧ SqL K H l (ss.map V.str) ∧ ss.length ≤ 4000 ∧ ∀ a, H a = none → Q (.ref a) (upd H a (SXO P w a (putsX ss [])))) ∨
  ∃ x : Str, xs = [V.str x] ∧ x.length ≤ 4000 ∧ ∀ a, H a = none → Q (.ref a) (upd H a (SXO P w a (putsX (x.cps.toList.map fun c => ⟨#[c]⟩) []))))
theorem cr_setX (hc : X.calm = true) : CallR X (.type "set") (rSetX X.K X.prog X.w) := by
  intro pins s σ H xs us Q I r h
  have fresh : H s.heap.objs.size = none := I.hok.fresh (Nat.le_refl _)
  rcases h with ⟨l, ss, rfl, hl, hf, q⟩ | ⟨x, rfl, hf, q⟩
  · rw [Vals.ref1 r]
    obtain ⟨its, rv, pl, hz⟩ := I.list hl
    exact call_setXL ss (I.ok.hd hc) pl.isList (by simpa using strs_of_vals rv) (by unfold scanBound; omega) fun h' tk R k =>
      ⟨.ref s.heap.objs.size, upd H s.heap.objs.size (SXO X.prog X.w s.heap.objs.size (putsX ss [])), I.laid (t' := tk) k (Nat.le_refl _) (sxo_new R), rfl, q _ fresh⟩
  · obtain ⟨u, rfl, t, rfl⟩ := vals1 r
    exact call_setXT (I.ok.hd hc) (by unfold scanBound; omega) fun h' tk R k =>
      ⟨.ref s.heap.objs.size, upd H s.heap.objs.size (SXO X.prog X.w s.heap.objs.size (putsX (x.cps.toList.map fun c => ⟨#[c]⟩) [])), I.laid (t' := tk) k (Nat.le_refl _) (sxo_new R), rfl, q _ fresh⟩
end
/-! ### sorted -/
def ltS (a b : Str) : Bool := decide (a.cps.toList < b.cps.toList)
theorem str_ext {a b : Str} (h : a.cps.toList = b.cps.toList) : a = b := by
  cases a; cases b; congr; exact Array.ext' h
theorem sto_str : STO ltS := ⟨fun a => by simp [ltS], fun a b c h1 h2 => by
    simp only [ltS, decide_eq_true_eq] at h1 h2 ⊢; exact List.lt_trans h1 h2, fun a b => by
    simp only [ltS, decide_eq_true_eq]
    by_cases h : a.cps.toList < b.cps.toList
    · exact .inl h
    · by_cases e : a.cps.toList = b.cps.toList
      · exact .inr (.inl (str_ext e))
      · exact .inr (.inr (Std.lt_of_le_of_ne (Std.not_lt.mp h) (Ne.symm e)))⟩

theorem perm_of {α : Type} [DecidableEq α] : ∀ {l ss : List α}, l.Nodup → (∀ z ∈ l, z ∈ ss) → ss.length ≤ l.length → l.Perm ss
  | [], ss, _, _, h => by
    have : ss = [] := List.eq_nil_of_length_eq_zero (by simpa using h)
    rw [this]
  | x :: l, ss, nd, m, h => by
    obtain ⟨n1, n2⟩ := List.nodup_cons.mp nd
    have hx := m x (by simp)
    have p := List.perm_cons_erase hx
    have hl := List.length_erase_of_mem hx
    have ih := perm_of (l := l) (ss := ss.erase x) n2 (fun z hz => (List.mem_erase_of_ne (fun e => n1 (by rw [← e]; exact hz))).mpr (m z (List.mem_cons_of_mem _ hz))) (by simp at h; omega)
    exact (List.Perm.cons x ih).trans p.symm
theorem sort_txt {ss l : List Str} (nd : l.Nodup) (hm : ∀ z, z ∈ ss ↔ z ∈ l) (hz : ss.length ≤ l.length) : ss.mergeSort (PySem.W.dataLe false PyData.str) = setU ltS l := by
  have pm : (ss.mergeSort (PySem.W.dataLe false PyData.str)).Perm ss := List.mergeSort_perm _ _
  have ndm : (ss.mergeSort (PySem.W.dataLe false PyData.str)).Nodup := pm.nodup_iff.mpr ((perm_of nd (fun z h => (hm z).mpr h) hz).nodup_iff.mp nd)
  have e : (PySem.W.dataLe false PyData.str) = fun a b : Str => decide (a.cps.toList ≤ b.cps.toList) := PySem.W.dataLe_str (β := Str) id
  have pw : (ss.mergeSort (PySem.W.dataLe false PyData.str)).Pairwise fun a b => (PySem.W.dataLe false PyData.str) a b = true := by
    refine List.pairwise_mergeSort ?_ ?_ ss
    · intro a b c h1 h2
      rw [e] at h1 h2 ⊢
      simp only [decide_eq_true_eq] at h1 h2 ⊢
      exact Std.le_trans h1 h2
    · intro a b
      rw [e]
      simp only [Bool.or_eq_true, decide_eq_true_eq]
      exact Std.le_total
  refine setU_of sto_str ?_ fun z => by rw [pm.mem_iff, hm]
  refine (pw.and ndm).imp fun {a b} h => ?_
  obtain ⟨h1, h2⟩ := h
  rw [e] at h1
  simp only [ltS, decide_eq_true_eq] at h1 ⊢
  exact Std.lt_of_le_of_ne h1 fun q => h2 (str_ext q)
abbrev isS (v : Value) (x : Str) : Prop := ∃ t, v = .str x t
theorem each_strs : ∀ {vs : List Value} {ss : List Str}, StrsAre vs ss → PySem.W.EachIs isS vs ss
  | _, _, .nil => .nil
  | _, _, .cons x t h => .cons ⟨t, rfl⟩ (each_strs h)
theorem strs_each : ∀ {vs : List Value} {ss : List Str}, PySem.W.EachIs isS vs ss → StrsAre vs ss
  | _, _, .nil => .nil
  | _, _, .cons ⟨t, e⟩ h => by rw [e]; exact .cons _ t (strs_each h)
section
variable {X : Cx}
def rSortedX (P : Program) (w : World) : List V → Hp → VK → Prop := fun vs H Q => ∃ a l, vs = [V.ref a] ∧ H a = some (SXO P w a l) ∧ l.length ≤ 4000 ∧ ∀ p, H p = none → Q (.ref p) (upd H p (.lst ((setU ltS l).map V.str)))
theorem cr_sortedX (hc : X.calm = true) (hu : X.A.units + 65 < cLine) : CallR X (.builtin "sorted") (rSortedX X.prog X.w) := by
  intro pins s σ H vs us Q I r h
  obtain ⟨a, l, rfl, ha, hz, q⟩ := h
  obtain ⟨es, ep, t, ho, T, hr, hl, nd⟩ : SX X.prog X.w s.heap a l := (I.hok a _ ha).1
  rw [Vals.ref1 r]
  refine Calls.call_function_entry kind_sorted plain_sorted entry_sorted (args_sorted1 _) ?_; unfold Builtin.«sorted»
  refine wpAny_bind (m := checkCount "sorted" 1 1 _) (wpAny_pure ?_)
  have hsz : es.size = l.length := T.sz
  refine wpAny_bind (collect_set (A := X.A.in1) (I.ok.hd hc) ⟨_, ho, rfl, rfl⟩ T.fit (by rw [hsz]; unfold scanBound; omega) hr hl fun s1 vs k1 hz1 g1 o1 pm => ?_)
  have hS : StrsAre vs (vs.map strOf) := strsAre_map vs fun v hv => by
    obtain ⟨e, he, q⟩ := List.mem_map.mp (pm.mem_iff.mp hv)
    obtain ⟨⟨k, h1, _⟩, _⟩ := T.el e he
    obtain ⟨u, h2⟩ := Value.isStrOf_shape h1
    exact ⟨k, u, by rw [← q]; exact h2⟩
  have hvl : vs.length = l.length := by rw [pm.length_eq, List.length_map, Array.length_toList]; exact hsz
  have hmem : ∀ z, z ∈ vs.map strOf ↔ z ∈ l := fun z => by
    rw [T.mem z, List.mem_map]
    constructor
    · rintro ⟨v, hv, e1⟩
      obtain ⟨e, he, q⟩ := List.mem_map.mp (pm.mem_iff.mp hv)
      refine ⟨e, he, ?_⟩
      obtain ⟨⟨k, h1, _⟩, _⟩ := T.el e he
      obtain ⟨u, h2⟩ := Value.isStrOf_shape h1
      rw [← q, h2] at e1
      rw [← e1]; exact h1
    · rintro ⟨e, he, h1⟩
      obtain ⟨u, h2⟩ := Value.isStrOf_shape h1
      exact ⟨e.2, pm.mem_iff.mpr (List.mem_map.mpr ⟨e, he, rfl⟩), by rw [h2]; rfl⟩
  refine wpAny_bind (wpAny_newList ?_ (by rw [hvl, sizeLine_eq]; omega))
  have hoL : (s1.heap.push (seqObj "list" vs.toArray 0)).get? s1.heap.objs.size = some (seqObj "list" vs.toArray 0) := Heap.get?_push_size _ rfl
  have hE := each_strs hS
  have hal : PySem.W.AllAlike ((vs.map strOf).map PyData.str) := fun d hd e he => by
    obtain ⟨x, _, rfl⟩ := List.mem_map.mp hd
    obtain ⟨y, _, rfl⟩ := List.mem_map.mp he
    rfl
  have hk : PySem.W.Sortable ((vs.map strOf).map PyData.str) := .inr fun d hd => by
    obtain ⟨x, _, rfl⟩ := List.mem_map.mp hd
    exact ⟨fun q => (nomatch q), fun ys q => (nomatch q)⟩
  refine wpAny_bind (wpAny_holding (PySem.W.list_sort_data (s := { s1 with heap := s1.heap.push (seqObj "list" vs.toArray 0) }) (enc := PyData.str) (R := isS) (bs := vs.map strOf) hoL hE
    (hE.mono fun v b ⟨u, e⟩ => ⟨[], by rw [e]; exact .str _ _, by simp⟩) hal hk (by rw [List.length_map, hvl, sizeLine_eq]; omega) (fun b _ => by
      have : (PyData.str b).depth = 0 := rfl
      rw [this]
      show X.A.in1.units + 1 + 0 < cLine
      have : X.A.in1.units = X.A.units + 1 := rfl
      omega) fun out hlen he => ?_))
  rw [sort_txt nd hmem (by rw [List.length_map, hvl]; exact Nat.le_refl _)] at he
  have hout := strs_each he
  obtain ⟨c, hc'⟩ := sortedHeap_at (vs := vs) (out := out.toArray) hoL
  have hn : H s1.heap.objs.size = none := I.hok.fresh hz1
  have k : ∀ b u, s.heap.get? b = some u → (sortedHeap (s1.heap.push (seqObj "list" vs.toArray 0)) s1.heap.objs.size vs out.toArray).get? b = some u := fun b u e => by
    have q := k1 b u e
    have hlt := Heap.lt_size q
    rw [sortedHeap_old (Nat.ne_of_lt hlt) (by rw [size_push']; exact Nat.lt_succ_of_lt hlt)]
    exact Heap.get?_push_of_some _ q
  have hlen2 : ((setU ltS l).map V.str).length ≤ sizeLine := by rw [List.length_map, sizeLine_eq]; have := @setU_len _ _ ltS l; omega
  have J : Inv X pins σ (upd H s1.heap.objs.size (.lst ((setU ltS l).map V.str))) { s1 with heap := sortedHeap (s1.heap.push (seqObj "list" vs.toArray 0)) s1.heap.objs.size vs out.toArray } :=
    I.call' (ch := []) o1 (Un.laid k hz1 hn) (I.hok.laid k hz1 ⟨hlen2, out, c, vals_of_strs hout, hc'⟩) (by show AllBare s1.gens; rw [g1]; exact I.bare) (fun _ z => nomatch z)
  exact wpAny_pure ⟨_, rfl, .ref s1.heap.objs.size, _, J, rfl, q _ hn⟩
end

/-! ### the rule -/
def gSortSetX : D → Option (List D)
  | .list xs => match isStrs xs with
    | some ss => if ss.length ≤ 4000 then some ((setU ltS ss).map .str) else none
    | none => none
  | .str x => if x.length ≤ 4000 then some ((setU ltS (x.cps.toList.map fun c => (⟨#[c]⟩ : Str))).map .str) else none
  | _ => none
def ssX (f : EF) : AF := fun ρ st => (f ρ st).bnd fun d st => .ofO (gSortSetX d) st
theorem setU_puts (xs : List Str) : setU ltS (putsX xs []) = setU ltS xs := setU_of sto_str (setU_up sto_str) fun z => by rw [mem_setU, putsX_mem]; simp
section
variable {X : Cx} {C : Nat → Addr} {W : WX} {k : Nat} {e : Expr} {f : EF} {p p2 pos pos2 : Pos}
theorem dl_ssetX (g : G X C W k) (ha : DE X C W f e) (hm : X.mg "sorted" = none) (hm2 : X.mg "set" = none) (hg : Gl X "sorted" := by rfl) (hg2 : Gl X "set" := by rfl)
    (h1 : starEach [.Call (.Name "set" p2) [e] [] pos2] X.env = (false, eval (.Call (.Name "set" p2) [e] [] pos2) X.env) :: starEach [] X.env := by rfl) (h2 : (backTo pos (starEach [] X.env)).any (·.1) = false := by rfl)
    (h3 : starEach [e] X.env = (false, eval e X.env) :: starEach [] X.env := by rfl) (h4 : (backTo pos2 (starEach [] X.env)).any (·.1) = false := by rfl) :
    DL X C W (ssX f) (.Call (.Name "sorted" p) [.Call (.Name "set" p2) [e] [] pos2] [] pos) :=
  PE.imp (pe_callB (cr_sortedX g.calm g.u65) hg hm bo_sorted (pa_cons (pe_callTy (cr_setX g.calm) hg2 hm2 bo_set (pa_cons ha pa_nil h3) (by decide) (by decide) h3 h4) pa_nil h1) (by decide) (by decide) h1 h2) fun σ H Q h => by
    obtain ⟨w, st, O, ρ, rel, h⟩ := h
    refine ⟨w, st, O, ρ, rel, (Out.bnd h).mono fun w1 H1 d st1 g1 k1 h1 v rv => ?_⟩
    have fin : ∀ {l : List Str} {a : Addr}, gSortSetX d = some ((setU ltS l).map .str) → l.length ≤ 4000 → H1 a = none → (fun xs H3 => rSortedX X.prog X.w (V.ref a :: xs) H3 Q) [] (upd H1 a (SXO X.prog X.w a (putsX l []))) := fun {l a} e z hf => by
      have zl := putsX_len l []
      refine ⟨a, _, rfl, upd_same, by simp at zl; omega, fun p hp => ?_⟩
      rw [e] at h1
      rw [setU_puts]
      have k2 := Ok.raw k1 (o := SXO X.prog X.w a (putsX l [])) hf
      refine raw_lst k2 (RepA.ofStrs _) ?_ (fun q us w' H' gg kk n0 n1 n2 n3 n4 n5 => ?_) hp
      · rw [List.length_map]; have := @setU_len _ _ ltS l; rw [sizeLine_eq]; omega
      have ga := Grow.raw k1 (o := SXO X.prog X.w a (putsX l [])) hf
      refine h1 w' H' (ga.trans gg) kk q us ?_ n1 n2 n3 n4 n5
      exact g1.mono q (ga.mono q n0)
    cases d with
    | list xs =>
      obtain ⟨l, us, rfl, ha, za, ra⟩ := rv.inL
      cases e1 : isStrs xs with
      | some ss =>
        by_cases z : ss.length ≤ 4000
        · have eq : gSortSetX (.list xs) = some ((setU ltS ss).map .str) := by simp [gSortSetX, e1, z]
          rw [isStrs_map e1] at ra
          rw [ra.strs] at ha
          exact .inl ⟨l, ss, rfl, SqL.of (k1.sub _ _ ha), z, fun a hf => fin eq z hf⟩
        · simp [gSortSetX, e1, z] at h1; exact h1.elim
      | none => simp [gSortSetX, e1] at h1; exact h1.elim
    | str x =>
      cases rv.inS
      by_cases z : x.length ≤ 4000
      · have eq : gSortSetX (.str x) = some ((setU ltS (x.cps.toList.map fun c => (⟨#[c]⟩ : Str))).map .str) := by simp [gSortSetX, z]
        exact .inr ⟨x, rfl, z, fun a hf => fin eq (by rw [List.length_map]; exact z) hf⟩
      · simp [gSortSetX, z] at h1; exact h1.elim
    | _ => exact h1.elim
end
end BF

/-! BF36: list(text). -/
namespace BF
open PySem L2 PySem.Spec PyProof.Rows
def gListStr : List D → Option (List D)
  | [.str x] => if x.length ≤ 1000000 then some (signs x) else none
  | _ => none
def rListStr : List V → Hp → VK → Prop := fun xs H Q => ∃ x : Str, xs = [V.str x] ∧ x.length ≤ 1000000 ∧ ∀ l, H l = none → Q (.ref l) (upd H l (.lst (x.cps.toList.map fun c => V.str ⟨#[c]⟩)))
section
variable {X : Cx}
theorem cr_listStr (hc : X.calm = true) : CallR X (.type "list") rListStr := by
  intro pins s σ H xs us Q I r h
  obtain ⟨x, rfl, hz, q⟩ := h
  obtain ⟨u, rfl, t, rfl⟩ := vals1 r
  have hz' : x.cps.size ≤ 1000000 := hz
  refine call_list_str (hn := by rw [sizeLine_eq]; omega) (I.ok.hd hc) x t fun h' tk acc c kp e hacc => ?_
  have hv : Vals (x.cps.toList.map fun c => V.str ⟨#[c]⟩) acc.toList := vals_of_at (by rw [List.length_map, Array.length_toList, Array.length_toList, hacc.1]) fun j y u e1 e2 => by
    rw [Array.getElem?_toList] at e2
    obtain ⟨c, t, e3, rfl⟩ := hacc.2 j u e2
    rw [List.getElem?_map, Array.getElem?_toList, e3] at e1
    cases e1
    exact ⟨t, rfl⟩
  exact ⟨.ref s.heap.objs.size, _, I.laid (t' := tk) kp (Nat.le_refl _) (show ObjOk X.prog X.w _ h' _ (.lst (x.cps.toList.map fun c => V.str ⟨#[c]⟩)) from ⟨by rw [List.length_map, Array.length_toList, sizeLine_eq]; omega, acc.toList, c, hv, by rw [Array.toArray_toList]; exact e⟩), rfl, q _ (I.hok.fresh (Nat.le_refl _))⟩
end
theorem cs_listStr {K : PySem.W.Frag} {C : Nat → Addr} : CallL K C rListStr gListStr := by
  intro w st H vs ds xs Q k r e q
  match ds, e with
  | [.str x], e =>
    obtain ⟨v, rfl, rv⟩ := r.one
    cases rv.inS
    simp only [gListStr] at e
    split at e
    · rename_i hz
      cases e
      have hz' : x.cps.size ≤ 1000000 := hz
      refine ⟨x, rfl, hz, fun p hp => ?_⟩
      have r2 : RepA (w.env K C) (x.cps.toList.map fun c => V.str ⟨#[c]⟩) (signs x) := by
        have := RepA.ofStrs (N := w.env K C) (x.cps.toList.map fun c => (⟨#[c]⟩ : Str))
        rw [List.map_map, List.map_map] at this
        exact this
      exact raw_lst k r2 (by unfold signs; rw [List.length_map, Array.length_toList, sizeLine_eq]; omega) q hp
    · cases e
end BF

/-! BF37: a comprehension whose items are calls that may raise. -/
namespace BF
open PySem L2

section
variable {B h h2 : Heap} {l : List Env} {a L C : Addr} {Z : Obj → Prop} {m m2 : Str → Option Value} {P : Program} {w : World} {H : Hp}
theorem hidC : (PySem.W.hideAll B [C]).get? C = none := PySem.W.hideAll_none _ (by simp)
theorem hid_no {b : Addr} (e : B.get? b = none) : (PySem.W.hideAll B [C]).get? b = none := by
  cases q : (PySem.W.hideAll B [C]).get? b with
  | none => rfl
  | some o => rw [PySem.W.of_hideAll _ q] at e; cases e
theorem fly_hide (f : HandSPX.FlyingZ B l a Z h) : HandSPX.FlyingZ (PySem.W.hideAll B [C]) l a Z h := by
  obtain ⟨f1, f2, f3, oe, vs, T, oT, ts, t1, t2, t3, t4, t5, t6⟩ := f
  exact ⟨fun b o e => f1 b o (PySem.W.of_hideAll _ e), hid_no f2, funFrames_none f3 fun L hL => hid_no (f3.mem hL).1, oe, vs, T, oT, ts, t1, t2, t3, t4, hid_no t5, t6⟩
theorem ns_ne {oe : Obj} {vs : Array Value} {b : Addr} (hn : h.Ns C m) (e : h.get? b = some oe) (d : oe.data = .fields vs) : b ≠ C := fun q => by
  obtain ⟨o, es, ep, ho, hd, _⟩ := hn
  rw [q, ho] at e; cases e; rw [hd] at d; cases d
theorem held_but (hB : B.get? C = none) (hn : h.Ns C m) (hn2 : h2.Ns C m2) (sb : Heap.SameBut C h h2) (f : HandSPX.HeldZ B l a Z L h) : HandSPX.HeldZ B l a Z L h2 := by
  obtain ⟨f1, f2, f3, oe, vs, T, oT, ts, t1, t2, t3, t4, t5, t6, t7, t8, t9⟩ := f
  refine ⟨fun b o e => (sb.2 b fun q => by rw [q, hB] at e; cases e).trans (f1 b o e), f2, Heap.FunFrames.sameBut sb hn2 f3, oe, vs, T, oT, ts, ?_, t2, t3, t4, t5, t6, ?_, t8, t9⟩
  · rw [sb.2 a (ns_ne hn t1 t3)]; exact t1
  · rw [sb.2 T (ns_ne hn t7 t8)]; exact t7
theorem hok_hide (x : HOk P w H h) (hC : H C = none) : HOk P w H (PySem.W.hideAll h [C]) := fun b o q => (x b o q).stay (fun c u hc r => PySem.W.hideAll_get _ r (by
    intro z
    have z := List.mem_singleton.mp z
    subst z
    rcases hc with hc | hc
    · rw [hc, q] at hC; cases hC
    · rw [hc] at hC; cases hC)) (fun _ r => r) fun _ _ r => r
end
section
variable {X : Cx} {W : WX} {pins : List (Addr × Obj)} {σ : St} {H3 : Hp} {s3 : Shared} {fp : List Addr} {scope : Scope} {ce : Env}
/-- what leaves a block: noted, its names let go -/
abbrev blkXe (X : Cx) (ce : Env) : Value → Shared → Prop := fun u s' => notedBy (model X.prog X.w) X.A ce (CompFails (model X.prog X.w) X.A X.xe ce) u s'
theorem pass_blk (I3 : Inv X pins σ H3 s3) (hs : X.stack = X.env :: X.outer) (hf : X.env.frame = some X.env.locals) (tk : Takes X W) (f3 : ∀ b ∈ fp, FpOk X pins H3 b ∧ b < s3.heap.objs.size)
    (hL : ce.locals = s3.heap.objs.size) (hF : ce.frame = X.env.frame) (pn : List (Addr × Obj)) (σb : St) :
    PassesAt (L2.CX X.prog X.w) ((X.blk s3 H3 scope ce fp).tr pn (blkXe X ce)) σb (fun cls d H => W cls d σ H) := by
  intro pins' H s e s' I c
  have x := XE.of_call (X := (X.blk s3 H3 scope ce fp).tr pn (blkXe X ce)) (W := fun cls d _ H => W cls d σ H) I (fun _ _ _ h => h) c
  obtain ⟨a0, _, _, _, _, rfl, ⟨_, _, _, fo, fv, fT, _, fts, g1, _, g3, g4, _, _, g7, g8, g9⟩, _⟩ := c
  obtain ⟨a, B, sI, pins2, σ2, H2, cls, d, e1, I2, nb, up, sky, na, os, ag, w⟩ := x
  have e2 : a0 = a := by injection e1
  subst e2
  have fl : HandSPX.FlyingZ B X.stack a0 (Zc cls d) s'.heap := by
    rcases sky with ⟨_, _, _, oe, vs, k1, _, k3, k4⟩ | fl | ⟨_, _, _, oe, vs, T, oT, ts, k1, _, k3, k4, _, _, k7, k8, k9⟩
    · rw [g1] at k1; cases k1; rw [g3] at k3; cases k3; rw [g4] at k4; cases k4
    · exact fl
    · rw [g1] at k1; cases k1; rw [g3] at k3; cases k3; rw [g4] at k4; cases k4
      rw [g7] at k7; cases k7; rw [g8] at k8; cases k8; rw [g9] at k9; cases k9
  have fl2 := fly_hide (C := ce.locals) fl
  rw [hs] at fl2
  obtain ⟨m, hm, _⟩ := I2.loc
  have hm : sI.heap.Ns ce.locals m := hm
  have hH2 : H2 ce.locals = none := I2.free
  show wpAny (model X.prog X.w) X.A (noteFrame (.ref a0) ce) _ _ s'
  rw [noteFrame_env _ hF]
  refine HandSPX.looks_onZ Zc.steady (by rw [I3.ok.frames, hs]) hf fl2 fun h1 hh up1 => ?_
  have hm1 : h1.Ns ce.locals m := (up.trans up1).ns hm
  refine ⟨m, hm1, fun h2 m2 hn2 sb => ?_⟩
  have hh2 := held_but hidC hm1 hn2 sb hh
  obtain ⟨_, _, _, oe, vs, T, oT, ts, k1, _, k3, k4, _⟩ := id hh2
  unfold passOn
  refine wpAny_bind (wpAny_field k1 k3 k4 ?_)
  rw [if_neg (show ¬ ((Value.ref T == Value.none) = true) from by simp), hF, hf]
  refine wpAny_bind (HandSPX.setFlight_onZ hh2 fun h3 hh3 up3 => ?_)
  refine wpAny_throw (tk _ _ ?_)
  refine ⟨a0, PySem.W.hideAll B [ce.locals], { sI with heap := PySem.W.hideAll sI.heap [ce.locals] }, pins, σ, H2, cls, d, rfl, ?_, fun b o q hb => ?_, fun b o q nf => ?_, .inr (.inr (by rw [hs]; exact hh3)), na, os, ag, w⟩
  · refine I3.call' (ch := fp) I2.os ?_ (hok_hide I2.hok hH2) I2.bare fun b hb => ⟨(f3 b hb).1.2.2.2.1, (f3 b hb).1.2.1, (f3 b hb).1.2.2.2.2.1, (f3 b hb).1.2.2.2.2.2⟩
    have nC : ∀ b o, s3.heap.get? b = some o → b ∉ [ce.locals] := fun b o q z => by
      have := Heap.lt_size q
      rw [List.mem_singleton.mp z, hL] at this
      exact Nat.lt_irrefl _ this
    have u := I2.base
    refine ⟨fun b o q n1 n2 n3 => PySem.W.hideAll_get _ (u.keep b o q n1 n2 n3) (nC b o q), fun b o q n1 n2 n3 => ?_, u.free, fun b o q n => ?_, u.tups, u.frzs, u.tbls⟩
    · obtain ⟨sl, z⟩ := u.slot b o q n1 n2 n3
      exact ⟨sl, PySem.W.hideAll_get _ z (nC b o q)⟩
    · obtain ⟨o', z⟩ := u.there b o q n
      exact ⟨o', PySem.W.hideAll_get _ z (nC b o q)⟩
  · have hne : b ≠ ce.locals := fun z => by rw [z, hidC] at q; cases q
    exact PySem.W.hideAll_get _ (nb b o (PySem.W.of_hideAll _ q) hb) (by simpa using hne)
  · have hne : b ≠ ce.locals := fun z => by rw [z, hidC] at q; cases q
    obtain ⟨sl, z⟩ := (up.trans up1) b o (PySem.W.of_hideAll _ q) nf
    obtain ⟨sl3, z3⟩ := up3 b _ ((sb.2 b hne).trans z) nf
    exact ⟨sl3, z3⟩
end

section
variable {X : Cx} {W : WX}
def tLcE (wi : TI) (g : TG) (te : WX → TE) (vs : List Nat) (W : WX) : TE := fun σ H Q => wi σ H fun J H1 => ∀ D, H1 D = none → ∃ N : Nat → Nat → Hp → Prop, (∃ m, N 0 m (upd H1 D (.lst []))) ∧ ∀ i m H, N i m H →
  (J.stop i H ∧ Q (.ref D) H) ∨ (J.go i H ∧ ∃ Nx : Hp → Prop, (∀ H', Nx H' → ∃ m', m' < m ∧ N (i + 1) m' H') ∧ ∀ x H', J.yld i H x H' → g x (L2.wipe σ vs) H' fun σ2 H2 => L2.wipe σ2 vs = L2.wipe σ vs ∧
    te (fun cls d _ H => W cls d σ H) σ2 H2 fun y H4 => ∃ acc, H4 D = some (.lst acc) ∧ acc.length < sizeLine ∧ Nx (upd H4 D (.lst (acc ++ [y]))))
theorem pe_lcE {elt tg iter : Expr} {scope : Scope} {own : List (Str × Nat)} {pos : Pos} {wi : TI} {g : TG} {te : WX → TE} (hc : X.calm = true) (hN : X.N.Nodup) (hs : X.stack = X.env :: X.outer) (hf : X.env.frame = some X.env.locals) (tk : Takes X W)
    (hi : PI X tg iter wi) (ok : BlkOk X.N X.env.scope scope own) (hg : ∀ (s : Shared) (H : Hp) (C : Addr) (cl : List (Str × Addr)) (fp : List Addr), PG (X.blk s H scope (compEnvC scope cl C X.env) fp) tg g)
    (he : ∀ (s : Shared) (H : Hp) (C : Addr) (cl : List (Str × Addr)) (fp : List Addr) (pn : List (Addr × Obj)) (xe : Value → Shared → Prop) (W' : WX), (∀ σ, PassesAt (L2.CX X.prog X.w) ((X.blk s H scope (compEnvC scope cl C X.env) fp).tr pn xe) σ (fun cls d H => W' cls d σ H)) →
      PE ((X.blk s H scope (compEnvC scope cl C X.env) fp).tr pn xe) elt (te W')) (hsf : ∀ x, foldedSetIterable iter X.env x = pure x := by intro _; rfl) :
    PE X (.ListComp elt [⟨tg, iter, [], 0⟩] scope pos) (tLcE wi g te (own.map (·.2)) W) := by
  refine ⟨fun pins s σ H Q I h => ?_⟩
  rw [eval_ListComp]
  have hfree : ∀ y ∈ scope.names, y.2 = .free → ∃ c, X.env.cells.lookup y.1 = some c := fun y hy e => (ok.free y hy e).elim (fun k => I.ok.has _ (.inl k)) fun k => I.ok.has _ (.inr k)
  refine comprehension_at (use := none) rfl hsf (closure_ok hfree) ok.kind (fun y hy e => by rw [ok.uniq y hy, e]) (thn (hi.run pins s σ H _ I h) fun xv s1 hx => thn hx fun itv s2 h2 => ?_)
  obtain ⟨it, fp, tn, J, H2, rfl, I2, T, st2, f2, q⟩ := h2
  refine wpAny_newObj_type (newEnv_comp ?_) (by show 0 ≤ sizeLine; decide)
  generalize hD : s2.heap.objs.size = D
  obtain ⟨N, ⟨m0, w0⟩, turn⟩ := q D (I2.hok.fresh (Nat.le_of_eq hD))
  generalize hs3 : ({ s2 with heap := s2.heap.push { cls := .type "list", data := .seq ([] : List Value).toArray } } : Shared) = s3
  have h3 : s3.heap = s2.heap.push { cls := .type "list", data := .seq ([] : List Value).toArray } := by rw [← hs3]
  have I3 : Inv X pins σ (upd H2 D (.lst [])) s3 := by
    rw [← hs3]; refine I2.laid (t' := s2.toks) (fun b o e => Heap.get?_push_of_some _ e) (Nat.le_of_eq hD) ⟨Nat.zero_le _, [], 0, .nil, ?_⟩
    rw [← hD]; exact Heap.get?_push_size _ rfl
  have f3 : ∀ b ∈ fp, FpOk X pins (upd H2 D (.lst [])) b ∧ b < s3.heap.objs.size := fun b hb => by
    obtain ⟨o, e, _⟩ := T.obj _ _ st2 b hb
    have hlt := Heap.lt_size e
    refine ⟨⟨?_, (f2 b hb).2⟩, by rw [h3, Heap.size_push]; exact Nat.lt_succ_of_lt hlt⟩
    rw [upd_ne (by rw [← hD]; exact Nat.ne_of_lt hlt)]; exact (f2 b hb).1
  have st3 : tn 0 s3.heap := T.keep _ _ _ st2 fun b _ o e => by rw [h3]; exact Heap.get?_push_of_some _ e
  have I4 := block_start I3 ok hN f3
  have pg := hg s3 (upd H2 D (.lst [])) s3.heap.objs.size (cellsFrom (s3.heap.objs.size + 1) scope.names (cloFrom X.env.cells scope.names [])) fp
  have pe := he s3 (upd H2 D (.lst [])) s3.heap.objs.size (cellsFrom (s3.heap.objs.size + 1) scope.names (cloFrom X.env.cells scope.names [])) fp
  show codeAny _ _ (.compStart (.ListComp elt [⟨tg, iter, [], 0⟩] scope pos) 0 (.ref it) (.ref D) (compEnvC scope (cellsFrom (s3.heap.objs.size + 1) scope.names (cloFrom X.env.cells scope.names [])) s3.heap.objs.size X.env))
    (compEnds (model X.prog X.w) X.A X.xe none (EP X pins σ Q) (.ref D) (compEnvC scope (cellsFrom (s3.heap.objs.size + 1) scope.names (cloFrom X.env.cells scope.names [])) s3.heap.objs.size X.env)) { s3 with heap := pushCells (s3.heap.push { cls := .type "dict", data := .dict #[] }) scope.names }
  have nfp : ∀ b ∈ fp, (upd H2 D (.lst [])) b = none := fun b hb => (f3 b hb).1.1
  generalize hce : compEnvC scope (cellsFrom (s3.heap.objs.size + 1) scope.names (cloFrom X.env.cells scope.names [])) s3.heap.objs.size X.env = ce at I4 pg pe ⊢
  have cL : ce.locals = s3.heap.objs.size := by subst hce; rfl
  have cF : ce.frame = X.env.frame := by subst hce; rfl
  generalize hH3 : upd H2 D (.lst []) = H3 at I3 I4 pg pe w0 nfp f3
  generalize hs4 : ({ s3 with heap := pushCells (s3.heap.push { cls := .type "dict", data := .dict #[] }) scope.names } : Shared) = s4 at I4 ⊢
  have st4 : tn 0 s4.heap := T.keep _ _ _ st3 fun b _ o e => by rw [← hs4]; exact pushCells_keeps _ _ _ _ (Heap.get?_push_of_some _ e)
  have stat : ∀ {σ' : St} {H' : Hp} {s' : Shared}, Inv (X.blk s3 H3 scope ce fp) [] σ' H' s' → (∀ b ∈ fp, H' b = none) → ∀ b ∈ fp, FpOk (X.blk s3 H3 scope ce fp) [] H' b := fun {σ' H' s'} I' hn b hb =>
    ⟨hn b hb, (I'.ok.exf b hb).1, I'.ok.exfs b hb, .inl hb, fun x c e => (I'.ok.exf b hb).2 x c e, fun p hp => absurd (show p ∈ ([] : List (Addr × Obj)) ++ [] from hp) (by simp)⟩
  have loop : codeAny (model X.prog X.w) X.A (.compLoop (.ListComp elt [⟨tg, iter, [], 0⟩] scope pos) 0 (.ref it) (.ref D) ce) (compEnds (model X.prog X.w) X.A X.xe none (EP X pins σ Q) (.ref D) ce) s4 := by
    refine compLoop_any (fun n s' => ∃ i H', Inv (X.blk s3 H3 scope ce fp) [] (L2.wipe σ (own.map (·.2))) H' s' ∧ tn i s'.heap ∧ (∀ b ∈ fp, H' b = none) ∧ N i n H') ?_ m0 ⟨0, H3, I4, st4, nfp, w0⟩
    rintro n s5 ⟨i, H5, I5, st5, n5, w5⟩
    rcases turn i n H5 w5 with ⟨stop, qq⟩ | ⟨go, Nx, hNx, step⟩
    · refine thnF (T.done (X.blk s3 H3 scope ce fp) rfl rfl rfl hc i [] s5 _ H5 (fun _ _ => False) I5 (stat I5 n5) st5 stop) fun r s6 ⟨hr, I6⟩ => ?_
      subst hr
      have I7 : Inv X pins σ H5 s6 := I3.call' (ch := fp) I6.os I6.base I6.hok I6.bare fun b hb => ⟨(f3 b hb).1.2.2.2.1, (f3 b hb).1.2.1, (f3 b hb).1.2.2.2.2.1, (f3 b hb).1.2.2.2.2.2⟩
      have nC : H5 s3.heap.objs.size = none := by have z : H5 ce.locals = none := I6.free; rwa [cL] at z
      obtain ⟨m, hn, _⟩ := I6.loc
      have hn : s6.heap.Ns ce.locals m := hn
      refine ⟨m, hn, fun h'' sb => ?_⟩
      rw [cL] at hn sb
      obtain ⟨z0, z1, z2, z3, z4, z5⟩ := I3.fpOk (Nat.le_refl _) nC
      exact ⟨.ref D, H5, I7.turned (t' := s6.toks) (fun b o hb e => (sb.2 b hb).trans e) z0 z1 z3 z4 z5, rfl, qq⟩
    · refine thnF (T.item (X.blk s3 H3 scope ce fp) rfl rfl rfl hc i [] s5 _ H5 (fun _ _ => False) I5 (stat I5 n5) st5 go) fun r s6 ⟨u, hr, h6⟩ => ?_
      subst hr
      refine thnF h6 fun _ s7 ⟨x, H7, I7, r7, y7, st7, n7⟩ => ?_
      have I7' := I7.pinned (stat I7 n7) (T.obj _ _ st7)
      refine thnF (pg.run _ s7 _ H7 x u _ I7' r7 (step x H7 y7)) fun _ s8 ⟨σ8, H8, I8, hw8, q8⟩ => ?_
      refine wpAny_tests_nil ?_
      simp only [if_true]
      have fin : ∀ {s' : Shared} {H' : Hp}, Inv (X.blk s3 H3 scope ce fp) ([] ++ pinsAt fp s7.heap) σ8 H' s' → Nx H' → ∃ m, m < n ∧ ∃ i H', Inv (X.blk s3 H3 scope ce fp) [] (L2.wipe σ (own.map (·.2))) H' s' ∧ tn i s'.heap ∧ (∀ b ∈ fp, H' b = none) ∧ N i m H' := fun {s' H'} I' nx => by
        obtain ⟨m', hm, w'⟩ := hNx H' nx
        have pin' : ∀ b ∈ fp, ∀ o, s7.heap.get? b = some o → s'.heap.get? b = some o ∧ H' b = none := fun b hb o e => let z := I'.pin (b, o) (List.mem_append_right _ (List.mem_append_right _ (mem_pinsAt hb e))); ⟨z.1, z.2.1⟩
        refine ⟨m', hm, i + 1, H', (I'.unpinned (pins := [])).weak (by rw [← hw8, wipe_length]) (fun j v e => by rw [← hw8] at e; exact (wipe_some e).1), T.keep _ _ _ st7 fun b hb o e => (pin' b hb o e).1, fun b hb => ?_, w'⟩
        obtain ⟨o, e, _⟩ := T.obj _ _ st7 b hb
        exact (pin' b hb o e).2
      have I9 := I8.toTry (blkXe X ce)
      have run := (pe ((X.blk s3 H3 scope ce fp).pn ++ ([] ++ pinsAt fp s7.heap)) (blkXe X ce) (fun cls d _ H => W cls d σ H) (fun σb => pass_blk I3 hs hf tk f3 cL cF _ σb)).run [] s8 σ8 H8 _ I9 q8
      refine wpAny_mono run (fun z s10 ⟨yv, H10, I10, r10, acc, hD10, hz10, nx⟩ => ?_) fun _ _ e => e
      exact thnF (app_ok (X := X.blk s3 H3 scope ce fp) (E := fun _ _ => False) (Q := fun _ s' => ∃ m, m < n ∧ ∃ i H', Inv (X.blk s3 H3 scope ce fp) [] (L2.wipe σ (own.map (·.2))) H' s' ∧ tn i s'.heap ∧ (∀ b ∈ fp, H' b = none) ∧ N i m H') (I10.ofTry I8.ok) hD10 hz10 r10 fun s11 I11 => fin I11 nx) fun _ _ z => z
  exact codeAny_compStart_list loop (T.self X.A 0 _ _ _ st4 loop)
end
end BF

/-! BF38: comprehensions of calls that may raise: the rule. -/
namespace BF
open PySem L2
def lcLoopE (tg : Tgt) (te : EF) : List D → Slots → Sto → List D → EO (List D)
  | [], _, st, acc => .ok acc st
  | d :: ds, ρ, st, acc => match tg.set d ρ with
    | none => .bad
    | some ρ' => (te ρ' st).bnd fun y st => lcLoopE tg te ds ρ st (acc ++ [y])
def lcE (fi : AF) (tg : Tgt) (vs : List Nat) (te : EF) : AF := fun ρ st => (fi ρ st).bnd fun ds st => lcLoopE tg te ds (wipeS ρ vs) st []
theorem lcE_imp {K : PySem.W.Frag} {C : Nat → Addr} {W : WX} {fi : AF} {tg : Tgt} {vs : List Nat} {te : EF} (hj : ∀ j ∈ tg.js, j ∈ vs) {σ : St} {H : Hp} {Q : VK} (h : tL K C W (lcE fi tg vs te) σ H Q) :
    tLcE (tI K C W fi) (tG K C tg) (fun W' => tE K C W' te) vs W σ H Q := by
  obtain ⟨w, st, O, ρ, rel, h⟩ := h
  refine ⟨w, st, O, ρ, rel, (Out.bnd h).mono fun w1 H1 ds st1 g1 k1 h1 hz J hJ D hD => ?_⟩
  have rel1 := (rel.grow g1 k1).wipe vs
  obtain ⟨hFD, hID⟩ := none1 k1 hD
  refine ⟨fun i m H' => m = ds.length - i ∧ i ≤ ds.length ∧ ∃ w st acc vacc, Grow w1 H1 w H' ∧ Ok K C w st H' ∧ w.F D = none ∧ ¬ w.In D ∧ H' D = some (.lst vacc) ∧ RepA (w.env K C) vacc acc ∧ acc.length ≤ i ∧
    Out K C W w1 σ H1 (lcLoopE tg te (ds.drop i) (wipeS ρ vs) st acc) (fun w' H' ds _ => ∀ p vs, H p = none → w'.F p = none → ¬ w'.In p → H' p = some (.lst vs) → ds.length ≤ sizeLine → RepA (w'.env K C) vs ds → Q (.ref p) H'),
    ⟨_, rfl, Nat.zero_le _, w1, st1, [], [], Grow.raw k1 hD, Ok.raw k1 hD, hFD, hID, upd_same, .nil, Nat.le_refl _, h1⟩, ?_⟩
  rintro i m H' ⟨rfl, hi, w', st', acc, vacc, gg, kk, f1, f2, f3, f4, f5, f6⟩
  have relW := rel1.grow gg kk
  have J1 := hJ w' st' H' (gg.le K C) kk
  by_cases hlt : i < ds.length
  · refine .inr ?_
    have hd : ds[i]? = some ds[i] := by simp [hlt]
    refine ⟨(J1.1 i _ hd).1, fun H' => ∃ w st acc vacc, Grow w1 H1 w H' ∧ Ok K C w st H' ∧ w.F D = none ∧ ¬ w.In D ∧ H' D = some (.lst vacc) ∧ RepA (w.env K C) vacc acc ∧ acc.length ≤ i + 1 ∧
      Out K C W w1 σ H1 (lcLoopE tg te (ds.drop (i + 1)) (wipeS ρ vs) st acc) (fun w' H' ds _ => ∀ p vs, H p = none → w'.F p = none → ¬ w'.In p → H' p = some (.lst vs) → ds.length ≤ sizeLine → RepA (w'.env K C) vs ds → Q (.ref p) H'),
      fun H2 n => ⟨ds.length - (i + 1), by omega, rfl, by omega, n⟩, fun x H3 y => ?_⟩
    obtain ⟨rfl, wk, gk, ok', rx⟩ := (J1.1 i _ hd).2 x H3 y
    obtain ⟨f3, f1, f2⟩ := gk.apart ok' f3 f1 f2
    have f4 := f4.le (gk.le K C)
    have gg := gg.trans gk
    have relW := relW.grow gk ok'
    clear kk
    rw [List.drop_eq_getElem_cons hlt] at f6
    refine ⟨wk, st', _, _, ds[i], relW, rx, ?_⟩
    unfold lcLoopE at f6
    revert f6
    cases tg.set ds[i] (wipeS ρ vs) with
    | none => exact fun f6 => f6.elim
    | some ρ' =>
      intro f6 O' σ' hw hO rel'
      refine ⟨by rw [hw vs hj, wipe_idem], wk, st', O', ρ', rel', ?_⟩
      revert f6
      simp only
      cases te ρ' st' with
      | err c st3 => exact fun f6 w2 H2 g2 k2 => f6 w2 H2 (gg.trans g2) k2
      | bad => exact fun f6 => f6.elim
      | ok y st3 =>
        intro f6 w3 H3 g3 k3 v rv
        obtain ⟨e3, e1, e2⟩ := g3.apart k3 f3 f1 f2
        have r3 : RepA (w3.env K C) vacc acc := f4.le (g3.le K C)
        refine ⟨vacc, e3, by rw [r3.length]; omega, w3, st3, acc ++ [y], vacc ++ [v], (gg.trans g3).upd hD, k3.upd e1 e2, e1, e2, upd_same, r3.append (.cons rv .nil), by simp; omega, f6⟩
  · have e : i = ds.length := by omega
    subst e
    rw [List.drop_length] at f6
    exact .inl ⟨J1.2 _ (Nat.le_refl _), f6 w' H' gg kk D vacc (g1.mono D hD) f1 f2 f3 (by omega) f4⟩
section
variable {X : Cx} {C : Nat → Addr} {W : WX} {k : Nat} {elt tg iter e : Expr} {es : List Expr} {scope : Scope} {own : List (Str × Nat)} {p pos : Pos} {fi f : AF} {t : Tgt} {te : EF} {x : Str} {n j : Nat} {fn : Fn}
theorem de_callP (hp : ∀ σ, PassesAt (L2.CX X.prog X.w) X σ (fun cls d H => W cls d σ H)) (hr : Room j X.A) (F : Has X.prog X.w X.K X.mg X.base C x n k fn) (hk : k ≤ j) (ha : DA X C W f (e :: es)) (hg : Gl X x := by rfl) (hdb : (x == ("__debug__" : Str)) = false := by decide)
    (h1 : starEach (e :: es) X.env = (false, eval e X.env) :: starEach es X.env := by rfl) (h2 : (backTo pos (starEach es X.env)).any (·.1) = false := by rfl) : DE X C W (callF n fn f) (.Call (.Name x p) (e :: es) [] pos) := by
  obtain ⟨a, fd, ps, F, hm, hkp, hb⟩ := F.ex
  refine PE.imp (pe_callS (E := fun σ cls d H => W cls d σ H) F (hr.mono hk) hg hm hkp hb hp ha hdb h1 h2) fun σ H Q h => ?_
  obtain ⟨w, st, O, ρ, rel, h⟩ := h
  refine ⟨w, st, O, ρ, rel, (Out.bnd h).mono fun w1 H1 ds st1 g1 k1 h1 vs rv => ?_⟩
  by_cases hn : ds.length = n
  · rw [if_pos hn] at h1
    refine ⟨w1, st1, ds, k1, rv, hn, ?_⟩
    revert h1
    cases fn ds st1 with
    | ok d st2 => exact fun h v w' H' g k r => h w' H' g k v r
    | err c st2 => exact fun h => h
    | bad => exact fun h => h
  · rw [if_neg hn] at h1; exact h1.elim
theorem dl_lcE (own : List (Str × Nat)) (g : G X C W k) (hj : ∀ j ∈ t.js, j ∈ own.map (·.2)) (hi : DI X C W fi tg iter) (ok : blkC X.N X.env.scope scope own = true)
    (hg : ∀ (s : Shared) (H : Hp) (D : Addr) (cl : List (Str × Addr)) (fp : List Addr), DG (X.blk s H scope (compEnvC scope cl D X.env) fp) C t tg)
    (he : ∀ (s : Shared) (H : Hp) (D : Addr) (cl : List (Str × Addr)) (fp : List Addr) (pn : List (Addr × Obj)) (xe : Value → Shared → Prop) (W' : WX), (∀ σ, PassesAt (L2.CX X.prog X.w) ((X.blk s H scope (compEnvC scope cl D X.env) fp).tr pn xe) σ (fun cls d H => W' cls d σ H)) →
      Room k X.A → DE ((X.blk s H scope (compEnvC scope cl D X.env) fp).tr pn xe) C W' te elt)
    (hs : X.stack = X.env :: X.outer := by rfl) (hf : X.env.frame = some X.env.locals := by rfl) (hsf : ∀ x, foldedSetIterable iter X.env x = pure x := by intro _; rfl) : DL X C W (lcE fi t (own.map (·.2)) te) (.ListComp elt [⟨tg, iter, [], 0⟩] scope pos) :=
  PE.imp (pe_lcE (g := tG X.K C t) (te := fun W' => tE X.K C W' te) g.calm g.nd hs hf g.tk hi (blkOk_by ok) hg (fun s H D cl fp pn xe W' hp => he s H D cl fp pn xe W' hp g.room) hsf) fun _ _ _ h => lcE_imp hj h
end
end BF

/-! BQ1: the defs' combinators. -/
namespace BF.R
open PySem L2 BF
def b_is_whole : SF := (retS (tv (andT (bV (lift1 (isiD "int") (eVar 0))) (andT (notT (bV (lift1 (isiD "bool") (eVar 0)))) (chT gLe gLe (eVar 1) (eVar 0) (eVar 2))))))
def fn_is_whole : Fn := fnB 3 b_is_whole
def b_is_stroke : SF := (seqS (ifS (orT (notT (truF (lift1 (isiD "tuple") (eVar 0)))) (liftT gNe (callG gLen (aCons (eVar 0) aNil)) (eC (.int 2)))) (retS (eC (.bool false))) skipS)
    (retS (tv (andT (bV (callF 3 fn_is_whole (aCons (lift2 gIdx (eVar 0) (eC (.int 0))) (aCons (eC (.int 0)) (aCons (eC (.int 100000)) aNil))))) (bV (callF 3 fn_is_whole (aCons (lift2 gIdx (eVar 0) (eC (.int 1))) (aCons (eC (.int 0)) (aCons (eC (.int 7)) aNil)))))))))
def fn_is_stroke : Fn := fnB 1 b_is_stroke
abbrev el_look_heard_1 : EF := (tv (liftT gLt (lift2 gIdx (eVar 0) (eVar 1)) (lift2 gIdx (eVar 0) (lift2 gAdd (eVar 1) (eC (.int 1))))))
def lc_look_heard_1 : AF := lcF (rng1 (lift2 gSub (callG gLen (aCons (eVar 0) aNil)) (eC (.int 1)))) (.nm 1) [1] yesT el_look_heard_1
abbrev el_look_heard_2 : EF := (callF 1 fn_is_stroke (aCons (eVar 2) aNil))
def lc_look_heard_2 : AF := lcF (walk (eVar 0)) (.nm 2) [2] yesT el_look_heard_2
def b_look_heard : SF := (seqS (ifS (orT (notT (truF (lift1 (isiD "list") (eVar 0)))) (orT (notT (chT gLe gLe (eC (.int 1)) (callG gLen (aCons (eVar 0) aNil)) (eC (.int 60)))) (notT (truF (callG gAll (aCons (lstV lc_look_heard_2) aNil)))))) (raiseS 0) skipS)
    (ifS (notT (truF (callG gAll (aCons (lstV lc_look_heard_1) aNil)))) (raiseS 0) skipS))
def fn_look_heard : Fn := fnB 3 b_look_heard
def b_look_unit : SF := (ifS (notT (truF (callF 3 fn_is_whole (aCons (eVar 0) (aCons (eC (.int 2)) (aCons (eC (.int 100)) aNil)))))) (raiseS 1) skipS)
def fn_look_unit : Fn := fnB 1 b_look_unit
def b_look_grid : SF := (seqS (dropS (callF 1 fn_look_unit (aCons (eVar 0) aNil)))
    (ifS (notT (truF (callF 3 fn_is_whole (aCons (eVar 1) (aCons (eC (.int 0)) (aCons (lift2 gSub (eVar 0) (eC (.int 1))) aNil)))))) (raiseS 1) skipS))
def fn_look_grid : Fn := fnB 2 b_look_grid
def b_tick_of : SF := (retS (lift2 gAdd (lift2 gMul (eVar 2) (eVar 0)) (iteF (liftT gEq (lift2 gMod (eVar 2) (eC (.int 2))) (eC (.int 1))) (eVar 1) (eC (.int 0)))))
def fn_tick_of : Fn := fnB 3 b_tick_of
abbrev el_step_near_1 : EF := (tupV (aCons (callG gAbs (aCons (lift2 gSub (eVar 2) (callF 3 fn_tick_of (aCons (eVar 0) (aCons (eVar 1) (aCons (eVar 5) aNil))))) aNil)) (aCons (eVar 5) aNil)))
def lc_step_near_1 : AF := lcF (rng2 (eVar 3) (lift2 gAdd (eVar 3) (eC (.int 5)))) (.nm 5) [5] yesT el_step_near_1
def b_step_near : SF := (seqS (asgS (.nm 3) (callG gMax2 (aCons (eC (.int 0)) (aCons (lift2 gSub (lift2 gFdiv (eVar 2) (eVar 0)) (eC (.int 2))) aNil))))
    (seqS (asgS (.nm 4) (lstV lc_step_near_1))
    (retS (lift2 gIdx (callG gMin (aCons (eVar 4) aNil)) (eC (.int 1))))))
def fn_step_near : Fn := fnB 6 b_step_near
def bd_laid_on_1 : SF := (seqS (asgS (.nm 6) (callF 3 fn_step_near (aCons (eVar 1) (aCons (eVar 2) (aCons (eVar 4) aNil)))))
    (upS 3 (tupV (aCons (eVar 6) (aCons (eVar 5) (aCons (lift2 gSub (eVar 4) (callF 3 fn_tick_of (aCons (eVar 1) (aCons (eVar 2) (aCons (eVar 6) aNil))))) aNil)))) appU))
def lp_laid_on_1 : SF := forS (walk (eVar 0)) (.tp [4, 5]) bd_laid_on_1
def b_laid_on : SF := (seqS (ownS 3 (chk aNil))
    (seqS lp_laid_on_1
    (seqS (iceS 3) (retS (eVar 3)))))
def fn_laid_on : Fn := fnB 7 b_laid_on
def b_laid : SF := (seqS (dropS (callF 1 fn_look_heard (aCons (eVar 0) aNil)))
    (seqS (dropS (callF 2 fn_look_grid (aCons (eVar 1) (aCons (eVar 2) aNil))))
    (retS (callF 3 fn_laid_on (aCons (eVar 0) (aCons (eVar 1) (aCons (eVar 2) aNil)))))))
def fn_laid : Fn := fnB 3 b_laid
abbrev el_offs_1 : EF := (callG gAbs (aCons (lift2 gIdx (eVar 4) (eC (.int 2))) aNil))
def lc_offs_1 : AF := lcF (walk (callF 3 fn_laid_on (aCons (eVar 0) (aCons (eVar 1) (aCons (eVar 2) aNil))))) (.nm 4) [4] yesT el_offs_1
def b_offs : SF := (seqS (asgS (.nm 3) (lstV lc_offs_1))
    (retS (tupV (aCons (callG gSum (aCons (eVar 3) aNil)) (aCons (callG gMax (aCons (eVar 3) aNil)) aNil)))))
def fn_offs : Fn := fnB 5 b_offs
abbrev el_swing_of_1 : EF := (tupV (aCons (callF 3 fn_offs (aCons (eVar 0) (aCons (eVar 1) (aCons (eVar 3) aNil)))) (aCons (eVar 3) aNil)))
def lc_swing_of_1 : AF := lcF (rng1 (eVar 1)) (.nm 3) [3] yesT el_swing_of_1
def b_swing_of : SF := (seqS (asgS (.nm 2) (lstV lc_swing_of_1))
    (retS (callG gMin (aCons (eVar 2) aNil))))
def fn_swing_of : Fn := fnB 4 b_swing_of
def b_best_swing : SF := (seqS (dropS (callF 1 fn_look_heard (aCons (eVar 0) aNil)))
    (seqS (dropS (callF 1 fn_look_unit (aCons (eVar 1) aNil)))
    (seqS (asgS (.tp [2, 3]) (callF 2 fn_swing_of (aCons (eVar 0) (aCons (eVar 1) aNil))))
    (retS (lift2 gAdd (tupV (aCons (eVar 3) aNil)) (eVar 2))))))
def fn_best_swing : Fn := fnB 4 b_best_swing
abbrev el_units_1 : EF := (tupV (aCons (callF 3 fn_offs (aCons (eVar 0) (aCons (eVar 5) (aCons (eVar 8) aNil)))) (aCons (eVar 8) aNil)))
def lc_units_1 : AF := lcF (walk (eVar 6)) (.nm 8) [8] yesT el_units_1
abbrev if_units_1 : TF := (liftT gLe (lift2 gIdx (callF 3 fn_offs (aCons (eVar 0) (aCons (eVar 5) (aCons (eVar 8) aNil)))) (eC (.int 1))) (eVar 3))
def lc_units_2 : AF := lcF (rng1 (eVar 5)) (.nm 8) [8] if_units_1 (eVar 8)
def bd_units_1 : SF := (seqS (asgS (.nm 6) (lstV lc_units_2))
    (seqS (asgS (.nm 7) (lstV lc_units_1))
    (upS 4 (iteF (truF (eVar 7)) (lstV (chk (aCons (tupV (aCons (eVar 5) (aCons (lift2 gIdx (callG gMin (aCons (eVar 7) aNil)) (eC (.int 1))) aNil))) aNil))) (lstV (chk aNil))) extU)))
def lp_units_1 : SF := forS (rng2 (eVar 1) (lift2 gAdd (eVar 2) (eC (.int 1)))) (.nm 5) bd_units_1
def b_units : SF := (seqS (dropS (callF 1 fn_look_heard (aCons (eVar 0) aNil)))
    (seqS (dropS (callF 1 fn_look_unit (aCons (eVar 1) aNil)))
    (seqS (dropS (callF 1 fn_look_unit (aCons (eVar 2) aNil)))
    (seqS (ifS (orT (liftT gLt (eVar 2) (eVar 1)) (orT (liftT gGt (lift2 gSub (eVar 2) (eVar 1)) (eC (.int 20))) (notT (truF (callF 3 fn_is_whole (aCons (eVar 3) (aCons (eC (.int 0)) (aCons (eC (.int 100)) aNil)))))))) (raiseS 1) skipS)
    (seqS (ownS 4 (chk aNil))
    (seqS lp_units_1
    (seqS (iceS 4) (retS (eVar 4)))))))))
def fn_units : Fn := fnB 9 b_units
def b_look_size : SF := (ifS (notT (truF (callF 3 fn_is_whole (aCons (eVar 0) (aCons (eC (.int 1)) (aCons (eC (.int 16)) aNil)))))) (raiseS 1) skipS)
def fn_look_size : Fn := fnB 1 b_look_size
def b__law_cell : SF := (seqS (ifS (truF (eVar 0)) (retS (lift2 gIdx (eVar 0) (lift2 gMod (eVar 1) (callG gLen (aCons (eVar 0) aNil))))) skipS)
    (retS (eC (.int 0))))
def fn__law_cell : Fn := fnB 2 b__law_cell
def b__law_mix : SF := (seqS (asgS (.nm 2) (lift2 gMod (lift2 gAdd (callF 2 fn__law_cell (aCons (eVar 0) (aCons (eVar 1) aNil))) (lift2 gMul (eC (.int 104729)) (lift2 gAdd (eVar 1) (eC (.int 1))))) (eC (.int 4294967291))))
    (seqS (asgS (.nm 2) (lift2 gMod (lift2 gPow (eVar 2) (eC (.int 5))) (eC (.int 4294967279))))
    (retS (lift2 gMod (lift2 gAdd (lift2 gMul (lift2 gFdiv (eVar 2) (eC (.int 64))) (eC (.int 69621))) (eVar 2)) (eC (.int 4294967231))))))
def fn__law_mix : Fn := fnB 3 b__law_mix
def b__law_draw : SF := (seqS (appOb 1 (eC (.int 0)))
    (retS (lift2 gMod (lift2 gFdiv (callF 2 fn__law_mix (aCons (eVar 0) (aCons (lenOb 1) aNil))) (eC (.int 8))) (eVar 2))))
def fn__law_draw : Fn := fnB 3 b__law_draw
def b__law_pick : SF := (retS (lift2 gIdx (eVar 2) (callF 3 fn__law_draw (aCons (eVar 0) (aCons (eVar 1) (aCons (callG gLen (aCons (eVar 2) aNil)) aNil))))))
def fn__law_pick : Fn := fnB 3 b__law_pick
def b__law_refusal : SF := (seqS (ifS (liftT gIsN (eVar 0) (eC .none)) (retS (tupV (aCons (eC (.str (PySem.Str.ofString "ok"))) aNil))) skipS)
    (seqS (asgS (.nm 1) (lstV (chk (aCons (lift1 (isED 6 0) (eVar 0)) (aCons (lift1 (isED 6 1) (eVar 0)) (aCons (lift1 (isED 6 2) (eVar 0)) aNil))))))
    (seqS (asgS (.nm 1) (lift2 gAdd (eVar 1) (lstV (chk (aCons (lift1 (isED 6 3) (eVar 0)) (aCons (lift1 (isED 6 4) (eVar 0)) (aCons (lift1 (isED 6 5) (eVar 0)) aNil)))))))
    (seqS (ifS (orT (liftT gNe (methL gCount (eVar 1) (eC (.bool true))) (eC (.int 1))) (notT (truF (lift1 (isEV 6) (eVar 0))))) (retS (tupV (aCons (eC (.str (PySem.Str.ofString "wrong"))) aNil))) skipS)
    (retS (tupV (aCons (eC (.str (PySem.Str.ofString "refused"))) (aCons (lift2 gIdx (lstV (chk (aCons (eC (.str (PySem.Str.ofString "heard"))) (aCons (eC (.str (PySem.Str.ofString "number"))) (aCons (eC (.str (PySem.Str.ofString "bars"))) (aCons (eC (.str (PySem.Str.ofString "chain"))) (aCons (eC (.str (PySem.Str.ofString "many"))) (aCons (eC (.str (PySem.Str.ofString "text"))) aNil)))))))) (methL gIndex (eVar 1) (eC (.bool true)))) aNil))))))))
def fn__law_refusal : Fn := fnB 2 b__law_refusal
def bd__law_heard_1 : SF := (seqS (asgS (.nm 6) (lift2 gAdd (lift2 gMul (eVar 4) (callF 3 fn__law_draw (aCons (eVar 0) (aCons (eVar 1) (aCons (eC (.int 40)) aNil))))) (callF 3 fn__law_draw (aCons (eVar 0) (aCons (eVar 1) (aCons (callF 3 fn__law_pick (aCons (eVar 0) (aCons (eVar 1) (aCons (lstV (chk (aCons (eC (.int 1)) (aCons (eC (.int 3)) (aCons (eVar 4) aNil))))) aNil)))) aNil))))))
    (upS 3 (tupV (aCons (eVar 6) (aCons (callF 3 fn__law_draw (aCons (eVar 0) (aCons (eVar 1) (aCons (eC (.int 8)) aNil)))) aNil))) appU))
def lp__law_heard_1 : SF := forS (rng1 (lift2 gAdd (eC (.int 1)) (callF 3 fn__law_draw (aCons (eVar 0) (aCons (eVar 1) (aCons (eVar 2) aNil)))))) (.nm 5) bd__law_heard_1
def b__law_heard : SF := (seqS (ownS 3 (chk aNil))
    (seqS (asgS (.nm 4) (callF 3 fn__law_pick (aCons (eVar 0) (aCons (eVar 1) (aCons (lstV (chk (aCons (eC (.int 1)) (aCons (eC (.int 7)) (aCons (eC (.int 24)) (aCons (eC (.int 100)) aNil)))))) aNil)))))
    (seqS lp__law_heard_1
    (seqS (iceS 3) (retS (lstV (ssF (eVar 3))))))))
def fn__law_heard : Fn := fnB 7 b__law_heard
abbrev if__law_laid_1 : TF := (liftT gEq (callG gAbs (aCons (lift2 gSub (eVar 4) (lift2 gIdx (eVar 6) (eVar 9))) aNil)) (eVar 7))
def lc__law_laid_1 : AF := lcF (rng1 (callG gLen (aCons (eVar 6) aNil))) (.nm 9) [9] if__law_laid_1 (eVar 9)
abbrev el__law_laid_1 : EF := (callG gAbs (aCons (lift2 gSub (eVar 4) (eVar 10)) aNil))
def lc__law_laid_2 : AF := lcF (walk (eVar 6)) (.nm 10) [10] yesT el__law_laid_1
abbrev el__law_laid_2 : EF := (lift2 gAdd (lift2 gMul (eVar 9) (eVar 1)) (lift2 gMul (lift2 gMod (eVar 9) (eC (.int 2))) (eVar 2)))
def lc__law_laid_3 : AF := lcF (rng1 (lift2 gAdd (lift2 gFdiv (eVar 4) (eVar 1)) (eC (.int 3)))) (.nm 9) [9] yesT el__law_laid_2
def bd__law_laid_1 : SF := (seqS (asgS (.nm 6) (lstV lc__law_laid_3))
    (seqS (asgS (.nm 7) (callG gMin (aCons (lstV lc__law_laid_2) aNil)))
    (seqS (asgS (.nm 8) (lift2 gIdx (lstV lc__law_laid_1) (eC (.int 0))))
    (upS 3 (tupV (aCons (eVar 8) (aCons (eVar 5) (aCons (lift2 gSub (eVar 4) (lift2 gIdx (eVar 6) (eVar 8))) aNil)))) appU))))
def lp__law_laid_1 : SF := forS (walk (eVar 0)) (.tp [4, 5]) bd__law_laid_1
def b__law_laid : SF := (seqS (ownS 3 (chk aNil))
    (seqS lp__law_laid_1
    (seqS (iceS 3) (retS (eVar 3)))))
def fn__law_laid : Fn := fnB 11 b__law_laid
abbrev el__law_rows_1 : EF := (callG gAbs (aCons (lift2 gIdx (eVar 5) (eC (.int 2))) aNil))
def lc__law_rows_1 : AF := lcF (walk (callF 3 fn__law_laid (aCons (eVar 0) (aCons (eVar 1) (aCons (eVar 3) aNil))))) (.nm 5) [5] yesT el__law_rows_1
def bd__law_rows_1 : SF := (seqS (asgS (.nm 4) (lstV lc__law_rows_1))
    (upS 2 (tupV (aCons (callG gSum (aCons (eVar 4) aNil)) (aCons (callG gMax (aCons (eVar 4) aNil)) (aCons (eVar 3) aNil)))) appU))
def lp__law_rows_1 : SF := forS (rng1 (eVar 1)) (.nm 3) bd__law_rows_1
def b__law_rows : SF := (seqS (ownS 2 (chk aNil))
    (seqS lp__law_rows_1
    (seqS (iceS 2) (retS (eVar 2)))))
def fn__law_rows : Fn := fnB 6 b__law_rows
def b__law_tick : SF := (retS (lift2 gAdd (lift2 gMul (eVar 2) (eVar 0)) (lift2 gMul (eVar 1) (lift2 gMod (eVar 2) (eC (.int 2))))))
def fn__law_tick : Fn := fnB 3 b__law_tick
abbrev el__law_offs_1 : EF := (callG gAbs (aCons (lift2 gIdx (eVar 4) (eC (.int 2))) aNil))
def lc__law_offs_1 : AF := lcF (walk (callF 3 fn_laid (aCons (eVar 0) (aCons (eVar 1) (aCons (eVar 2) aNil))))) (.nm 4) [4] yesT el__law_offs_1
def b__law_offs : SF := (seqS (asgS (.nm 3) (lstV lc__law_offs_1))
    (retS (tupV (aCons (callG gSum (aCons (eVar 3) aNil)) (aCons (callG gMax (aCons (eVar 3) aNil)) aNil)))))
def fn__law_offs : Fn := fnB 5 b__law_offs
abbrev el_is_step_1 : EF := (callF 3 fn_is_whole (aCons (eVar 1) (aCons (eC (.int 0)) (aCons (eC (.int 7)) aNil))))
def lc_is_step_1 : AF := lcF (walk (eVar 0)) (.nm 1) [1] yesT el_is_step_1
def b_is_step : SF := (seqS (ifS (orT (notT (truF (lift1 (isiD "tuple") (eVar 0)))) (notT (truF (callG gAll (aCons (lstV lc_is_step_1) aNil))))) (retS (eC (.bool false))) skipS)
    (retS (tv (liftT gEq (lstV (ssF (eVar 0))) (lstV (callG gListOf (aCons (eVar 0) aNil)))))))
def fn_is_step : Fn := fnB 2 b_is_step
abbrev el_is_bar_1 : EF := (callF 1 fn_is_step (aCons (eVar 1) aNil))
def lc_is_bar_1 : AF := lcF (walk (eVar 0)) (.nm 1) [1] yesT el_is_bar_1
def b_is_bar : SF := (retS (tv (andT (bV (lift1 (isiD "tuple") (eVar 0))) (andT (chT gLe gLe (eC (.int 1)) (callG gLen (aCons (eVar 0) aNil)) (eC (.int 16))) (bV (callG gAll (aCons (lstV lc_is_bar_1) aNil)))))))
def fn_is_bar : Fn := fnB 2 b_is_bar
abbrev el_look_bars_1 : EF := (tv (liftT gEq (callG gLen (aCons (eVar 1) aNil)) (callG gLen (aCons (lift2 gIdx (eVar 0) (eC (.int 0))) aNil))))
def lc_look_bars_1 : AF := lcF (walk (eVar 0)) (.nm 1) [1] yesT el_look_bars_1
abbrev el_look_bars_2 : EF := (callF 1 fn_is_bar (aCons (eVar 1) aNil))
def lc_look_bars_2 : AF := lcF (walk (eVar 0)) (.nm 1) [1] yesT el_look_bars_2
def b_look_bars : SF := (seqS (ifS (orT (notT (truF (lift1 (isiD "list") (eVar 0)))) (orT (notT (chT gLe gLe (eC (.int 1)) (callG gLen (aCons (eVar 0) aNil)) (eC (.int 60)))) (notT (truF (callG gAll (aCons (lstV lc_look_bars_2) aNil)))))) (raiseS 2) skipS)
    (ifS (notT (truF (callG gAll (aCons (lstV lc_look_bars_1) aNil)))) (raiseS 2) skipS))
def fn_look_bars : Fn := fnB 2 b_look_bars
abbrev el_struck_in_1 : EF := (tupV (aCons (eVar 2) (aCons (eVar 3) aNil)))
def lc_struck_in_1 : AF := lcF (walk (lift2 gIdx (eVar 0) (eVar 2))) (.nm 3) [3] yesT el_struck_in_1
def bd_struck_in_1 : SF := (upS 1 (lstV lc_struck_in_1) extU)
def lp_struck_in_1 : SF := forS (rng1 (callG gLen (aCons (eVar 0) aNil))) (.nm 2) bd_struck_in_1
def b_struck_in : SF := (seqS (ownS 1 (chk aNil))
    (seqS lp_struck_in_1
    (seqS (iceS 1) (retS (eVar 1)))))
def fn_struck_in : Fn := fnB 4 b_struck_in
abbrev if_apart_1 : TF := (liftT gNotIn (eVar 4) (eVar 3))
def lc_apart_1 : AF := lcF (walk (eVar 2)) (.nm 4) [4] if_apart_1 (eVar 4)
abbrev if_apart_2 : TF := (liftT gNotIn (eVar 4) (eVar 2))
def lc_apart_2 : AF := lcF (walk (eVar 3)) (.nm 4) [4] if_apart_2 (eVar 4)
def b_apart : SF := (seqS (asgS (.tp [2, 3]) (tupV (aCons (callF 1 fn_struck_in (aCons (eVar 0) aNil)) (aCons (callF 1 fn_struck_in (aCons (eVar 1) aNil)) aNil))))
    (retS (lift2 gAdd (callG gLen (aCons (lstV lc_apart_1) aNil)) (callG gLen (aCons (lstV lc_apart_2) aNil)))))
def fn_apart : Fn := fnB 5 b_apart
def b_unlike : SF := (seqS (dropS (callF 1 fn_look_bars (aCons (lstV (chk (aCons (eVar 0) (aCons (eVar 1) aNil)))) aNil)))
    (retS (callF 2 fn_apart (aCons (eVar 0) (aCons (eVar 1) aNil)))))
def fn_unlike : Fn := fnB 2 b_unlike
def bd_sounded_1 : SF := (seqS (asgS (.nm 7) (lift2 gAdd (lift2 gMul (eVar 4) (callG gLen (aCons (lift2 gIdx (eVar 0) (eVar 4)) aNil))) (eVar 5)))
    (upS 3 (tupV (aCons (lift2 gAdd (lift2 gMul (eVar 7) (eVar 1)) (iteF (liftT gEq (lift2 gMod (eVar 7) (eC (.int 2))) (eC (.int 1))) (eVar 2) (eC (.int 0)))) (aCons (eVar 6) aNil))) appU))
def lp_sounded_1 : SF := forS (walk (callF 1 fn_struck_in (aCons (lift2 gIdx (eVar 0) (eVar 4)) aNil))) (.tp [5, 6]) bd_sounded_1
def bd_sounded_2 : SF := lp_sounded_1
def lp_sounded_2 : SF := forS (rng1 (callG gLen (aCons (eVar 0) aNil))) (.nm 4) bd_sounded_2
def b_sounded : SF := (seqS (dropS (callF 1 fn_look_bars (aCons (eVar 0) aNil)))
    (seqS (dropS (callF 2 fn_look_grid (aCons (eVar 1) (aCons (eVar 2) aNil))))
    (seqS (ownS 3 (chk aNil))
    (seqS lp_sounded_2
    (seqS (iceS 3) (retS (eVar 3)))))))
def fn_sounded : Fn := fnB 8 b_sounded
def bd_unlike_bars_1 : SF := (upS 1 (iteF (liftTO gNotIn (eVar 2) 1) (lstV (chk (aCons (eVar 2) aNil))) (lstV (chk aNil))) extU)
def lp_unlike_bars_1 : SF := forS (walk (eVar 0)) (.nm 2) bd_unlike_bars_1
def b_unlike_bars : SF := (seqS (ownS 1 (chk aNil))
    (seqS lp_unlike_bars_1
    (seqS (iceS 1) (retS (eVar 1)))))
def fn_unlike_bars : Fn := fnB 3 b_unlike_bars
abbrev el_chain_1 : EF := (lift2 gIdx (eC (.str (PySem.Str.ofString "abcdefghijklmnopqrstuvwxyz"))) (methL gIndex (eVar 1) (eVar 2)))
def lc_chain_1 : AF := lcF (walk (eVar 0)) (.nm 2) [2] yesT el_chain_1
def b_chain : SF := (seqS (dropS (callF 1 fn_look_bars (aCons (eVar 0) aNil)))
    (seqS (asgS (.nm 1) (callF 1 fn_unlike_bars (aCons (eVar 0) aNil)))
    (seqS (ifS (liftT gGt (callG gLen (aCons (eVar 1) aNil)) (callG gLen (aCons (eC (.str (PySem.Str.ofString "abcdefghijklmnopqrstuvwxyz"))) aNil))) (raiseS 4) skipS)
    (retS (tupV (aCons (eVar 1) (aCons (methS gJoin (eC (.str (PySem.Str.ofString ""))) (lstV lc_chain_1)) aNil)))))))
def fn_chain : Fn := fnB 3 b_chain
def b_look_most : SF := (ifS (notT (truF (callF 3 fn_is_whole (aCons (eVar 0) (aCons (eC (.int 0)) (aCons (eC (.int 128)) aNil)))))) (raiseS 1) skipS)
def fn_look_most : Fn := fnB 1 b_look_most
abbrev el_table_of_1 : EF := (lift2 gIdx (eVar 2) (methL gIndex (eVar 1) (eVar 3)))
def lc_table_of_1 : AF := lcF (walk (eVar 0)) (.nm 3) [3] yesT el_table_of_1
abbrev el_table_of_2 : EF := (callF 2 fn_apart (aCons (eVar 3) (aCons (eVar 4) aNil)))
def lc_table_of_2 : AF := lcF (walk (eVar 1)) (.nm 4) [4] yesT el_table_of_2
abbrev el_table_of_3 : EF := (lstV lc_table_of_2)
def lc_table_of_3 : AF := lcF (walk (eVar 1)) (.nm 3) [3] yesT el_table_of_3
def b_table_of : SF := (seqS (asgS (.nm 2) (lstV lc_table_of_3))
    (retS (lstV lc_table_of_1)))
def fn_table_of : Fn := fnB 5 b_table_of
abbrev el_nearest_1 : EF := (tupV (aCons (lift2 gIdx (eVar 2) (eVar 3)) (aCons (eVar 3) aNil)))
def lc_nearest_1 : AF := lcF (walk (eVar 1)) (.nm 3) [3] yesT el_nearest_1
abbrev el_nearest_2 : EF := (callG gMin (aCons (lstV lc_nearest_1) aNil))
def lc_nearest_2 : AF := lcF (walk (eVar 0)) (.nm 2) [2] yesT el_nearest_2
def b_nearest : SF := (retS (lstV lc_nearest_2))
def fn_nearest : Fn := fnB 4 b_nearest
def bd_lengthened_1 : SF := (upS 2 (lift2 gAdd (eVar 3) (lstV (chk (aCons (eVar 4) aNil)))) appU)
def lp_lengthened_1 : SF := forS (rng2 (iteF (truF (eVar 3)) (lift2 gAdd (lift2 gIdx (eVar 3) (lift1 gNeg (eC (.int 1)))) (eC (.int 1))) (eC (.int 0))) (eVar 1)) (.nm 4) bd_lengthened_1
def bd_lengthened_2 : SF := lp_lengthened_1
def lp_lengthened_2 : SF := forS (walk (eVar 0)) (.nm 3) bd_lengthened_2
def b_lengthened : SF := (seqS (ownS 2 (chk aNil))
    (seqS lp_lengthened_2
    (seqS (iceS 2) (retS (eVar 2)))))
def fn_lengthened : Fn := fnB 5 b_lengthened
abbrev el_best_choice_1 : EF := (lift2 gIdx (eVar 9) (eC (.int 0)))
def lc_best_choice_1 : AF := lcF (walk (eVar 7)) (.nm 9) [9] yesT el_best_choice_1
abbrev el_best_choice_2 : EF := (lift2 gIdx (eVar 9) (eC (.int 0)))
def lc_best_choice_2 : AF := lcF (walk (eVar 7)) (.nm 9) [9] yesT el_best_choice_2
def bd_best_choice_1 : SF := (seqS (asgS (.nm 7) (callF 2 fn_nearest (aCons (eVar 3) (aCons (eVar 6) aNil))))
    (seqS (asgS (.nm 8) (callG gSum (aCons (lstV lc_best_choice_2) aNil)))
    (ifS (andT (liftT gLe (callG gMax (aCons (lstV lc_best_choice_1) aNil)) (eVar 1)) (orT (liftT gIsN (eVar 5) (eC .none)) (liftT gLt (eVar 8) (lift2 gIdx (eVar 5) (eC (.int 0)))))) (asgS (.nm 5) (tupV (aCons (eVar 8) (aCons (eVar 6) (aCons (eVar 7) aNil))))) skipS)))
def lp_best_choice_1 : SF := forS (walk (eVar 4)) (.nm 6) bd_best_choice_1
def bd_best_choice_2 : SF := (seqS (asgS (.nm 4) (callF 2 fn_lengthened (aCons (eVar 4) (aCons (callG gLen (aCons (eVar 2) aNil)) aNil))))
    lp_best_choice_1)
def lp_best_choice_2 : SF := whileLoop (liftT gIsN (eVar 5) (eC .none)) bd_best_choice_2 4096
def b_best_choice : SF := (seqS (asgS (.nm 2) (callF 1 fn_unlike_bars (aCons (eVar 0) aNil)))
    (seqS (ifS (liftT gGt (callG gLen (aCons (eVar 2) aNil)) (eC (.int 10))) (raiseS 4) skipS)
    (seqS (asgS (.nm 3) (callF 2 fn_table_of (aCons (eVar 0) (aCons (eVar 2) aNil))))
    (seqS (asgS (.nm 4) (lstV (chk (aCons (lstV (chk aNil)) aNil))))
    (seqS (asgS (.nm 5) (eC .none))
    (seqS lp_best_choice_2
    (retS (eVar 5))))))))
def fn_best_choice : Fn := fnB 10 b_best_choice
abbrev el_meant_1 : EF := (methL gIndex (eVar 4) (lift2 gIdx (eVar 7) (eC (.int 1))))
def lc_meant_1 : AF := lcF (walk (eVar 5)) (.nm 7) [7] yesT el_meant_1
abbrev el_meant_2 : EF := (lift2 gIdx (eVar 2) (eVar 6))
def lc_meant_2 : AF := lcF (walk (eVar 4)) (.nm 6) [6] yesT el_meant_2
def b_meant : SF := (seqS (dropS (callF 1 fn_look_bars (aCons (eVar 0) aNil)))
    (seqS (dropS (callF 1 fn_look_most (aCons (eVar 1) aNil)))
    (seqS (asgS (.tp [3, 4, 5]) (callF 2 fn_best_choice (aCons (eVar 0) (aCons (eVar 1) aNil))))
    (seqS (asgS (.nm 2) (callF 1 fn_unlike_bars (aCons (eVar 0) aNil)))
    (retS (tupV (aCons (lstV lc_meant_2) (aCons (lstV lc_meant_1) aNil))))))))
def fn_meant : Fn := fnB 8 b_meant
abbrev el_slips_1 : EF := (lift2 gAdd (tupV (aCons (eVar 5) aNil)) (eVar 11))
def lc_slips_1 : AF := lcF (walk (lstV (callG gSorted (aCons (eVar 6) aNil)))) (.nm 11) [11] yesT el_slips_1
abbrev el_slips_2 : EF := (tupV (aCons (eVar 9) (aCons (eVar 10) (aCons (eC (.str (PySem.Str.ofString "more"))) aNil))))
abbrev if_slips_1 : TF := (liftT gNotIn (tupV (aCons (eVar 9) (aCons (eVar 10) aNil))) (eVar 8))
def lc_slips_2 : AF := lcF (walk (eVar 7)) (.tp [9, 10]) [9, 10] if_slips_1 el_slips_2
abbrev el_slips_3 : EF := (tupV (aCons (eVar 9) (aCons (eVar 10) (aCons (eC (.str (PySem.Str.ofString "lacks"))) aNil))))
abbrev if_slips_2 : TF := (liftT gNotIn (tupV (aCons (eVar 9) (aCons (eVar 10) aNil))) (eVar 7))
def lc_slips_3 : AF := lcF (walk (eVar 8)) (.tp [9, 10]) [9, 10] if_slips_2 el_slips_3
def bd_slips_1 : SF := (seqS (asgS (.tp [7, 8]) (tupV (aCons (callF 1 fn_struck_in (aCons (lift2 gIdx (eVar 0) (eVar 5)) aNil)) (aCons (callF 1 fn_struck_in (aCons (lift2 gIdx (eVar 2) (lift2 gIdx (lift2 gIdx (eVar 4) (eVar 5)) (eC (.int 1)))) aNil)) aNil))))
    (seqS (ownS 6 lc_slips_3)
    (seqS (upS 6 (lstV lc_slips_2) extU)
    (seqS (iceS 6) (upS 3 (lstV lc_slips_1) extU)))))
def lp_slips_1 : SF := forS (rng1 (callG gLen (aCons (eVar 0) aNil))) (.nm 5) bd_slips_1
def b_slips : SF := (seqS (dropS (callF 1 fn_look_bars (aCons (eVar 0) aNil)))
    (seqS (dropS (callF 1 fn_look_most (aCons (eVar 1) aNil)))
    (seqS (asgS (.nm 2) (callF 1 fn_unlike_bars (aCons (eVar 0) aNil)))
    (seqS (ownS 3 (chk aNil))
    (seqS (asgS (.nm 4) (lift2 gIdx (callF 2 fn_best_choice (aCons (eVar 0) (aCons (eVar 1) aNil))) (eC (.int 2))))
    (seqS lp_slips_1
    (seqS (iceS 3) (retS (eVar 3)))))))))
def fn_slips : Fn := fnB 12 b_slips
def b_fewest : SF := (seqS (dropS (callF 1 fn_look_bars (aCons (eVar 0) aNil)))
    (seqS (dropS (callF 1 fn_look_most (aCons (eVar 1) aNil)))
    (seqS (asgS (.tp [2, 3, 4]) (callF 2 fn_best_choice (aCons (eVar 0) (aCons (eVar 1) aNil))))
    (retS (tupV (aCons (callG gLen (aCons (eVar 3) aNil)) (aCons (eVar 2) aNil)))))))
def fn_fewest : Fn := fnB 5 b_fewest
abbrev el_bar_text_1 : EF := (callG gStr (aCons (eVar 2) aNil))
def lc_bar_text_1 : AF := lcF (walk (eVar 1)) (.nm 2) [2] yesT el_bar_text_1
abbrev el_bar_text_2 : EF := (iteF (truF (eVar 1)) (methS gJoin (eC (.str (PySem.Str.ofString ""))) (lstV lc_bar_text_1)) (eC (.str (PySem.Str.ofString "-"))))
def lc_bar_text_2 : AF := lcF (walk (eVar 0)) (.nm 1) [1] yesT el_bar_text_2
def b_bar_text : SF := (retS (methS gJoin (eC (.str (PySem.Str.ofString "."))) (lstV lc_bar_text_2)))
def fn_bar_text : Fn := fnB 3 b_bar_text
def b_written : SF := (seqS (dropS (callF 1 fn_look_bars (aCons (lstV (chk (aCons (eVar 0) aNil))) aNil)))
    (retS (callF 1 fn_bar_text (aCons (eVar 0) aNil))))
def fn_written : Fn := fnB 1 b_written
abbrev el__law_bar_1 : EF := (callF 3 fn__law_draw (aCons (eVar 0) (aCons (eVar 1) (aCons (eC (.int 8)) aNil))))
def lc__law_bar_1 : AF := lcF (rng1 (callF 3 fn__law_pick (aCons (eVar 0) (aCons (eVar 1) (aCons (lstV (chk (aCons (eC (.int 0)) (aCons (eC (.int 0)) (aCons (eC (.int 0)) (aCons (eC (.int 1)) (aCons (eC (.int 1)) (aCons (eC (.int 2)) (aCons (eC (.int 8)) aNil))))))))) aNil))))) (.nm 6) [6] yesT el__law_bar_1
def bd__law_bar_1 : SF := (seqS (asgS (.nm 5) (lstV lc__law_bar_1))
    (upS 3 (callG gTupOf (aCons (lstV (ssF (eVar 5))) aNil)) appU))
def lp__law_bar_1 : SF := forS (rng1 (eVar 2)) (.nm 4) bd__law_bar_1
def b__law_bar : SF := (seqS (ownS 3 (chk aNil))
    (seqS lp__law_bar_1
    (seqS (iceS 3) (retS (callG gTupOf (aCons (eVar 3) aNil))))))
def fn__law_bar : Fn := fnB 7 b__law_bar
abbrev if__law_near_1 : TF := (liftT gNe (eVar 8) (eVar 7))
def lc__law_near_1 : AF := lcF (walk (eVar 5)) (.nm 8) [8] if__law_near_1 (eVar 8)
def bd__law_near_1 : SF := (seqS (asgS (.tp [6, 7]) (tupV (aCons (callF 3 fn__law_draw (aCons (eVar 0) (aCons (eVar 1) (aCons (callG gLen (aCons (eVar 2) aNil)) aNil)))) (aCons (callF 3 fn__law_draw (aCons (eVar 0) (aCons (eVar 1) (aCons (eC (.int 8)) aNil)))) aNil))))
    (seqS (asgS (.nm 5) (lstV (callG gListOf (aCons (idxO 3 (eVar 6)) aNil))))
    (seqS (asgS (.nm 5) (iteF (liftT gIn (eVar 7) (eVar 5)) (lstV lc__law_near_1) (lstV (callG gSorted (aCons (lift2 gAdd (eVar 5) (lstV (chk (aCons (eVar 7) aNil)))) aNil)))))
    (stO 3 (eVar 6) (callG gTupOf (aCons (eVar 5) aNil))))))
def lp__law_near_1 : SF := forS (rng1 (callF 3 fn__law_draw (aCons (eVar 0) (aCons (eVar 1) (aCons (eC (.int 3)) aNil))))) (.nm 4) bd__law_near_1
def b__law_near : SF := (seqS (ownS 3 (callG gListOf (aCons (eVar 2) aNil)))
    (seqS lp__law_near_1
    (seqS (iceS 3) (retS (callG gTupOf (aCons (eVar 3) aNil))))))
def fn__law_near : Fn := fnB 9 b__law_near
def bd__law_bars_1 : SF := (seqS (asgS (.nm 7) (callF 3 fn__law_pick (aCons (eVar 0) (aCons (eVar 1) (aCons (eVar 4) aNil)))))
    (upS 5 (iteF (liftT gEq (callF 3 fn__law_draw (aCons (eVar 0) (aCons (eVar 1) (aCons (eC (.int 3)) aNil)))) (eC (.int 0))) (callF 3 fn__law_near (aCons (eVar 0) (aCons (eVar 1) (aCons (eVar 7) aNil)))) (eVar 7)) appU))
def lp__law_bars_1 : SF := forS (rng1 (lift2 gAdd (eC (.int 1)) (callF 3 fn__law_draw (aCons (eVar 0) (aCons (eVar 1) (aCons (eVar 3) aNil)))))) (.nm 6) bd__law_bars_1
abbrev el__law_bars_1 : EF := (callF 3 fn__law_bar (aCons (eVar 0) (aCons (eVar 1) (aCons (eVar 2) aNil))))
def lc__law_bars_1 : AF := lcF (rng1 (lift2 gAdd (eC (.int 1)) (callF 3 fn__law_draw (aCons (eVar 0) (aCons (eVar 1) (aCons (eC (.int 4)) aNil)))))) (.nm 6) [6] yesT el__law_bars_1
def b__law_bars : SF := (seqS (asgS (.nm 4) (lstV lc__law_bars_1))
    (seqS (ownS 5 (chk aNil))
    (seqS lp__law_bars_1
    (seqS (iceS 5) (retS (eVar 5))))))
def fn__law_bars : Fn := fnB 8 b__law_bars
abbrev el__law_strokes_1 : EF := (tupV (aCons (eVar 2) (aCons (eVar 3) aNil)))
def lc__law_strokes_1 : AF := lcF (walk (lift2 gIdx (eVar 0) (eVar 2))) (.nm 3) [3] yesT el__law_strokes_1
def bd__law_strokes_1 : SF := (asgS (.nm 1) (lift2 gAdd (eVar 1) (lstV lc__law_strokes_1)))
def lp__law_strokes_1 : SF := forS (rng1 (callG gLen (aCons (eVar 0) aNil))) (.nm 2) bd__law_strokes_1
def b__law_strokes : SF := (seqS (asgS (.nm 1) (lstV (chk aNil)))
    (seqS lp__law_strokes_1
    (retS (eVar 1))))
def fn__law_strokes : Fn := fnB 4 b__law_strokes
abbrev if__law_unlike_1 : TF := (liftT gNe (tv (liftT gIn (eVar 4) (eVar 2))) (tv (liftT gIn (eVar 4) (eVar 3))))
def lc__law_unlike_1 : AF := lcF (walk (lift2 gAdd (eVar 2) (eVar 3))) (.nm 4) [4] if__law_unlike_1 (eVar 4)
def b__law_unlike : SF := (seqS (asgS (.tp [2, 3]) (tupV (aCons (callF 1 fn__law_strokes (aCons (eVar 0) aNil)) (aCons (callF 1 fn__law_strokes (aCons (eVar 1) aNil)) aNil))))
    (retS (lstV lc__law_unlike_1)))
def fn__law_unlike : Fn := fnB 5 b__law_unlike
def b_turn_of : SF := (retS (lift2 gAdd (slF (eVar 0) (someP (lift2 gSub (callG gLen (aCons (eVar 0) aNil)) (eVar 1))) noP) (slF (eVar 0) noP (someP (lift2 gSub (callG gLen (aCons (eVar 0) aNil)) (eVar 1))))))
def fn_turn_of : Fn := fnB 2 b_turn_of
def b_turned : SF := (seqS (dropS (callF 1 fn_look_bars (aCons (lstV (chk (aCons (eVar 0) aNil))) aNil)))
    (seqS (ifS (notT (truF (callF 3 fn_is_whole (aCons (eVar 1) (aCons (eC (.int 0)) (aCons (lift2 gSub (callG gLen (aCons (eVar 0) aNil)) (eC (.int 1))) aNil)))))) (raiseS 1) skipS)
    (retS (callF 2 fn_turn_of (aCons (eVar 0) (aCons (eVar 1) aNil))))))
def fn_turned : Fn := fnB 2 b_turned
abbrev el_least_of_1 : EF := (tupV (aCons (callF 2 fn_turn_of (aCons (eVar 0) (aCons (eVar 1) aNil))) (aCons (eVar 1) aNil)))
def lc_least_of_1 : AF := lcF (rng1 (callG gLen (aCons (eVar 0) aNil))) (.nm 1) [1] yesT el_least_of_1
def b_least_of : SF := (retS (callG gMin (aCons (lstV lc_least_of_1) aNil)))
def fn_least_of : Fn := fnB 2 b_least_of
def b_least_turn : SF := (seqS (dropS (callF 1 fn_look_bars (aCons (lstV (chk (aCons (eVar 0) aNil))) aNil)))
    (retS (callF 1 fn_least_of (aCons (eVar 0) aNil))))
def fn_least_turn : Fn := fnB 1 b_least_turn
abbrev el_nearest_turn_1 : EF := (tupV (aCons (callF 2 fn_apart (aCons (callF 2 fn_turn_of (aCons (eVar 0) (aCons (eVar 3) aNil))) (aCons (eVar 1) aNil))) (aCons (eVar 3) aNil)))
def lc_nearest_turn_1 : AF := lcF (rng1 (callG gLen (aCons (eVar 0) aNil))) (.nm 3) [3] yesT el_nearest_turn_1
def b_nearest_turn : SF := (seqS (dropS (callF 1 fn_look_bars (aCons (lstV (chk (aCons (eVar 0) (aCons (eVar 1) aNil)))) aNil)))
    (seqS (asgS (.nm 2) (lstV lc_nearest_turn_1))
    (retS (tupV (aCons (lift2 gIdx (callG gMin (aCons (eVar 2) aNil)) (eC (.int 1))) (aCons (lift2 gIdx (callG gMin (aCons (eVar 2) aNil)) (eC (.int 0))) aNil))))))
def fn_nearest_turn : Fn := fnB 4 b_nearest_turn
abbrev el_is_letters_1 : EF := (tv (liftT gIn (eVar 1) (eC (.str (PySem.Str.ofString "abcdefghijklmnopqrstuvwxyz")))))
def lc_is_letters_1 : AF := lcF (walk (eVar 0)) (.nm 1) [1] yesT el_is_letters_1
def b_is_letters : SF := (retS (tv (andT (bV (lift1 (isiD "str") (eVar 0))) (andT (chT gLe gLe (eC (.int 1)) (callG gLen (aCons (eVar 0) aNil)) (eC (.int 60))) (bV (callG gAll (aCons (lstV lc_is_letters_1) aNil)))))))
def fn_is_letters : Fn := fnB 2 b_is_letters
def b_look_letters : SF := (ifS (notT (truF (callF 1 fn_is_letters (aCons (eVar 0) aNil)))) (raiseS 3) skipS)
def fn_look_letters : Fn := fnB 1 b_look_letters
def b_better : SF := (retS (iteF (liftT gLe (tupV (aCons (callG gLen (aCons (eVar 0) aNil)) (aCons (eVar 0) aNil))) (tupV (aCons (callG gLen (aCons (eVar 1) aNil)) (aCons (eVar 1) aNil)))) (eVar 0) (eVar 1)))
def fn_better : Fn := fnB 2 b_better
def bd_repeated_1 : SF := (seqS (asgS (.nm 4) (lift2 gFdiv (callG gLen (aCons (eVar 0) aNil)) (eVar 3)))
    (ifS (andT (liftT gEq (lift2 gMod (callG gLen (aCons (eVar 0) aNil)) (eVar 3)) (eC (.int 0))) (liftT gEq (lift2 gMul (slF (eVar 0) noP (someP (eVar 3))) (eVar 4)) (eVar 0))) (seqS (asgS (.nm 5) (lift2 gIdx (eVar 1) (slF (eVar 0) noP (someP (eVar 3)))))
    (seqS (asgS (.nm 6) (iteF (liftT gEq (eVar 3) (eC (.int 1))) (eVar 5) (lift2 gAdd (lift2 gAdd (eC (.str (PySem.Str.ofString "("))) (eVar 5)) (eC (.str (PySem.Str.ofString ")"))))))
    (seqS (asgS (.nm 7) (lift2 gAdd (eVar 6) (callG gStr (aCons (eVar 4) aNil))))
    (asgS (.nm 2) (iteF (liftT gIsN (eVar 2) (eC .none)) (eVar 7) (callF 2 fn_better (aCons (eVar 2) (aCons (eVar 7) aNil)))))))) skipS))
def lp_repeated_1 : SF := forS (rng2 (eC (.int 1)) (lift2 gAdd (lift2 gFdiv (callG gLen (aCons (eVar 0) aNil)) (eC (.int 2))) (eC (.int 1)))) (.nm 3) bd_repeated_1
def b_repeated : SF := (seqS (asgS (.nm 2) (eC .none))
    (seqS lp_repeated_1
    (retS (eVar 2))))
def fn_repeated : Fn := fnB 8 b_repeated
def bd_best_text_1 : SF := (seqS (asgS (.nm 4) (lift2 gAdd (lift2 gIdx (eVar 1) (slF (eVar 0) noP (someP (eVar 3)))) (lift2 gIdx (eVar 1) (slF (eVar 0) (someP (eVar 3)) noP))))
    (asgS (.nm 2) (iteF (liftT gIsN (eVar 2) (eC .none)) (eVar 4) (callF 2 fn_better (aCons (eVar 2) (aCons (eVar 4) aNil))))))
def lp_best_text_1 : SF := forS (rng2 (eC (.int 1)) (callG gLen (aCons (eVar 0) aNil))) (.nm 3) bd_best_text_1
def b_best_text : SF := (seqS (asgS (.nm 2) (iteF (liftT gEq (callG gLen (aCons (eVar 0) aNil)) (eC (.int 1))) (eVar 0) (eC .none)))
    (seqS lp_best_text_1
    (seqS (asgS (.nm 4) (callF 2 fn_repeated (aCons (eVar 0) (aCons (eVar 1) aNil))))
    (retS (iteF (liftT gIsN (eVar 4) (eC .none)) (eVar 2) (callF 2 fn_better (aCons (eVar 2) (aCons (eVar 4) aNil))))))))
def fn_best_text : Fn := fnB 5 b_best_text
def bd__law_number_1 : SF := (asgS (.nm 2) (lift2 gAdd (eVar 2) (eC (.int 1))))
def lp__law_number_1 : SF := whileLoop (andT (liftT gLt (eVar 2) (callG gLen (aCons (eVar 0) aNil))) (liftT gIn (lift2 gIdx (eVar 0) (eVar 2)) (eC (.str (PySem.Str.ofString "0123456789"))))) bd__law_number_1 4096
def b__law_number : SF := (seqS (asgS (.nm 2) (eVar 1))
    (seqS lp__law_number_1
    (seqS (asgS (.nm 3) (slF (eVar 0) (someP (eVar 1)) (someP (eVar 2))))
    (seqS (ifS (orT (liftT gGt (callG gLen (aCons (eVar 3) aNil)) (eC (.int 2))) (orT (liftT gEq (eVar 3) (eC (.str (PySem.Str.ofString "")))) (orT (liftT gEq (lift2 gIdx (eVar 3) (eC (.int 0))) (eC (.str (PySem.Str.ofString "0")))) (liftT gEq (eVar 3) (eC (.str (PySem.Str.ofString "1"))))))) (retS (tupV (aCons (eC (.int 0)) (aCons (eVar 2) aNil)))) skipS)
    (retS (tupV (aCons (callG gIntA (aCons (eVar 3) aNil)) (aCons (eVar 2) aNil))))))))
def fn__law_number : Fn := fnB 4 b__law_number
abbrev el__law_choices_1 : EF := (lift2 gAdd (eVar 3) (lstV (chk (aCons (eVar 2) aNil))))
def lc__law_choices_1 : AF := lcF (walk (eVar 1)) (.nm 3) [3] yesT el__law_choices_1
def bd__law_choices_1 : SF := (asgS (.nm 1) (lift2 gAdd (eVar 1) (lstV lc__law_choices_1)))
def lp__law_choices_1 : SF := forS (rng1 (eVar 0)) (.nm 2) bd__law_choices_1
def b__law_choices : SF := (seqS (asgS (.nm 1) (lstV (chk (aCons (lstV (chk aNil)) aNil))))
    (seqS lp__law_choices_1
    (retS (slF (eVar 1) (someP (eC (.int 1))) noP))))
def fn__law_choices : Fn := fnB 4 b__law_choices
abbrev el__law_ladder_1 : EF := (callG gTupOf (aCons (lstV (callG gSorted (aCons (eVar 12) aNil))) aNil))
def lc__law_ladder_1 : AF := lcF (walk (eVar 8)) (.nm 12) [12] yesT el__law_ladder_1
abbrev if__law_ladder_1 : TF := (liftT gEq (eVar 10) (eVar 9))
def lc__law_ladder_2 : AF := lcF (walk (slF (eVar 4) noP (someP (eVar 6)))) (.tp [10, 11]) [10, 11] if__law_ladder_1 (eVar 11)
abbrev el__law_ladder_2 : EF := (lstV lc__law_ladder_2)
def lc__law_ladder_3 : AF := lcF (rng1 (eVar 2)) (.nm 9) [9] yesT el__law_ladder_2
def bd__law_ladder_1 : SF := (seqS (asgS (.nm 8) (lstV lc__law_ladder_3))
    (upS 5 (callG gTupOf (aCons (lstV lc__law_ladder_1) aNil)) appU))
def lp__law_ladder_1 : SF := forS (rng1 (callG gMin2 (aCons (lift2 gAdd (eC (.int 4)) (callF 3 fn__law_draw (aCons (eVar 0) (aCons (eVar 1) (aCons (eC (.int 5)) aNil))))) (aCons (lift2 gMul (eC (.int 8)) (eVar 2)) aNil)))) (.nm 6) bd__law_ladder_1
abbrev el__law_ladder_3 : EF := (tupV (aCons (lift2 gFdiv (eVar 9) (eC (.int 8))) (aCons (lift2 gMod (eVar 9) (eC (.int 8))) aNil)))
def lc__law_ladder_4 : AF := lcF (rng1 (lift2 gMul (eC (.int 8)) (eVar 2))) (.nm 9) [9] yesT el__law_ladder_3
def b__law_ladder : SF := (seqS (asgS (.nm 3) (callF 3 fn__law_draw (aCons (eVar 0) (aCons (eVar 1) (aCons (lift2 gMul (eC (.int 8)) (eVar 2)) aNil)))))
    (seqS (asgS (.nm 4) (lstV lc__law_ladder_4))
    (seqS (asgS (.nm 4) (lift2 gAdd (slF (eVar 4) (someP (eVar 3)) noP) (slF (eVar 4) noP (someP (eVar 3)))))
    (seqS (ownS 5 (chk aNil))
    (seqS lp__law_ladder_1
    (seqS (iceS 5) (seqS (asgS (.nm 7) (callF 3 fn__law_draw (aCons (eVar 0) (aCons (eVar 1) (aCons (callG gLen (aCons (eVar 5) aNil)) aNil)))))
    (seqS (iceS 5) (retS (lift2 gAdd (slF (eVar 5) (someP (eVar 7)) noP) (slF (eVar 5) noP (someP (eVar 7)))))))))))))
def fn__law_ladder : Fn := fnB 13 b__law_ladder
abbrev if__law_flipped_1 : TF := (liftT gNe (eVar 4) (eVar 2))
def lc__law_flipped_1 : AF := lcF (walk (lift2 gIdx (eVar 0) (eVar 1))) (.nm 4) [4] if__law_flipped_1 (eVar 4)
def b__law_flipped : SF := (seqS (asgS (.nm 3) (lstV lc__law_flipped_1))
    (seqS (asgS (.nm 3) (iteF (liftT gIn (eVar 2) (lift2 gIdx (eVar 0) (eVar 1))) (eVar 3) (lstV (callG gSorted (aCons (lift2 gAdd (eVar 3) (lstV (chk (aCons (eVar 2) aNil)))) aNil)))))
    (retS (lift2 gAdd (lift2 gAdd (slF (eVar 0) noP (someP (eVar 1))) (tupV (aCons (callG gTupOf (aCons (eVar 3) aNil)) aNil))) (slF (eVar 0) (someP (lift2 gAdd (eVar 1) (eC (.int 1)))) noP)))))
def fn__law_flipped : Fn := fnB 5 b__law_flipped
abbrev el_step_in_1 : EF := (callG gIntA (aCons (eVar 1) aNil))
def lc_step_in_1 : AF := lcF (walk (eVar 0)) (.nm 1) [1] yesT el_step_in_1
abbrev el_step_in_2 : EF := (tv (liftT gIn (eVar 1) (eC (.str (PySem.Str.ofString "01234567")))))
def lc_step_in_2 : AF := lcF (walk (eVar 0)) (.nm 1) [1] yesT el_step_in_2
def b_step_in : SF := (seqS (ifS (liftT gEq (eVar 0) (eC (.str (PySem.Str.ofString "-")))) (retS (tupV aNil)) skipS)
    (seqS (ifS (notT (truF (callG gAll (aCons (lstV lc_step_in_2) aNil)))) (raiseS 5) skipS)
    (retS (callG gTupOf (aCons (lstV lc_step_in_1) aNil)))))
def fn_step_in : Fn := fnB 2 b_step_in
abbrev el_evened_1 : EF := (iteF (liftT gIn (eVar 4) (eVar 2)) (tupV (aCons (eC (.int 0)) aNil)) (tupV aNil))
def lc_evened_1 : AF := lcF (rng1 (eVar 1)) (.nm 4) [4] yesT el_evened_1
abbrev el_evened_2 : EF := (lift2 gFdiv (lift2 gMul (eVar 3) (eVar 1)) (eVar 0))
def lc_evened_2 : AF := lcF (rng1 (eVar 0)) (.nm 3) [3] yesT el_evened_2
def b_evened : SF := (seqS (ifS (notT (truF (callF 3 fn_is_whole (aCons (eVar 1) (aCons (eC (.int 1)) (aCons (eC (.int 16)) aNil)))))) (raiseS 1) skipS)
    (seqS (ifS (notT (truF (callF 3 fn_is_whole (aCons (eVar 0) (aCons (eC (.int 0)) (aCons (eVar 1) aNil)))))) (raiseS 1) skipS)
    (seqS (asgS (.nm 2) (lstV lc_evened_2))
    (retS (callG gTupOf (aCons (lstV lc_evened_1) aNil))))))
def fn_evened : Fn := fnB 5 b_evened
abbrev if_toggled_1 : TF := (liftT gNe (eVar 2) (eVar 1))
def lc_toggled_1 : AF := lcF (walk (eVar 0)) (.nm 2) [2] if_toggled_1 (eVar 2)
def b_toggled : SF := (retS (callG gTupOf (aCons (lstV (callG gSorted (aCons (lift2 gAdd (lstV lc_toggled_1) (iteF (liftT gIn (eVar 1) (eVar 0)) (lstV (chk aNil)) (lstV (chk (aCons (eVar 1) aNil))))) aNil))) aNil)))
def fn_toggled : Fn := fnB 3 b_toggled
def bd__law_tune_1 : SF := (seqS (asgS (.nm 6) (lift2 gIdx (eC (.str (PySem.Str.ofString "abcdefghijklmnopqrstuvwxyz"))) (callF 3 fn__law_draw (aCons (eVar 0) (aCons (eVar 1) (aCons (eVar 2) aNil))))))
    (seqS (asgS (.nm 7) (callF 3 fn__law_pick (aCons (eVar 0) (aCons (eVar 1) (aCons (lstV (chk (aCons (eC (.int 1)) (aCons (eC (.int 1)) (aCons (eC (.int 2)) (aCons (eC (.int 3)) aNil)))))) aNil)))))
    (seqS (asgS (.nm 8) (callF 3 fn__law_draw (aCons (eVar 0) (aCons (eVar 1) (aCons (eC (.int 3)) aNil)))))
    (ifS (andT (liftT gEq (eVar 8) (eC (.int 0))) (andT (liftT gNe (eVar 4) (eC (.str (PySem.Str.ofString "")))) (liftT gLt (callG gLen (aCons (eVar 4) aNil)) (eC (.int 10))))) (seqS (asgS (.nm 3) (lift2 gAdd (lift2 gAdd (lift2 gAdd (eC (.str (PySem.Str.ofString "("))) (eVar 3)) (eC (.str (PySem.Str.ofString ")2")))) (eVar 6)))
    (asgS (.nm 4) (lift2 gAdd (lift2 gAdd (eVar 4) (eVar 4)) (eVar 6)))) (seqS (asgS (.nm 3) (lift2 gAdd (lift2 gAdd (eVar 3) (eVar 6)) (iteF (liftT gGt (eVar 7) (eC (.int 1))) (callG gStr (aCons (eVar 7) aNil)) (eC (.str (PySem.Str.ofString ""))))))
    (asgS (.nm 4) (lift2 gAdd (eVar 4) (lift2 gMul (eVar 6) (eVar 7)))))))))
def lp__law_tune_1 : SF := forS (rng1 (lift2 gAdd (eC (.int 1)) (callF 3 fn__law_draw (aCons (eVar 0) (aCons (eVar 1) (aCons (eC (.int 3)) aNil)))))) (.nm 5) bd__law_tune_1
def b__law_tune : SF := (seqS (asgS (.nm 3) (eC (.str (PySem.Str.ofString ""))))
    (seqS (asgS (.nm 4) (eC (.str (PySem.Str.ofString ""))))
    (seqS lp__law_tune_1
    (retS (tupV (aCons (eVar 3) (aCons (eVar 4) aNil)))))))
def fn__law_tune : Fn := fnB 9 b__law_tune
def bd__wall_1 : SF := skipS
def lp__wall_1 : SF := whileLoop (truF (eC (.bool true))) bd__wall_1 4096
def b__wall : SF := lp__wall_1
def fn__wall : Fn := fnB 1 b__wall
def b__law_odd : SF := (seqS (asgS (.tp [13, 14, 15, 16, 17]) (lift2 gIdx (eVar 2) (eC (.str (PySem.Str.ofString "now")))))
    (seqS (asgS (.nm 3) (lift2 gIdx (eVar 2) (eC (.str (PySem.Str.ofString "size")))))
    (seqS (asgS (.nm 4) (eC (.str (PySem.Str.ofString "abcdefghijklmnopqrstuvwxyz"))))
    (seqS (asgS (.nm 5) (callF 3 fn__law_pick (aCons (eVar 0) (aCons (eVar 1) (aCons (lstV (chk (aCons (tupV aNil) (aCons (lift2 gMulT (tupV (aCons (tupV aNil) aNil)) (lift2 gAdd (eVar 3) (eC (.int 1)))) (aCons (lift2 gMul (lstV (chk (aCons (tupV aNil) aNil))) (eVar 3)) (aCons (lift2 gMulT (tupV (aCons (tupV (aCons (eC (.int 8)) aNil)) aNil)) (eVar 3)) (aCons (eC .none) (aCons (eC (.str (PySem.Str.ofString "a"))) aNil)))))))) aNil)))))
    (seqS (asgS (.nm 6) (callF 3 fn__law_pick (aCons (eVar 0) (aCons (eVar 1) (aCons (lstV (chk (aCons (eC (.str (PySem.Str.ofString ""))) (aCons (eC (.str (PySem.Str.ofString "A"))) (aCons (eC .none) (aCons (eC (.int 0)) (aCons (eC (.str (PySem.Str.ofString "ab"))) (aCons (lift2 gAdd (slF (eVar 4) (someP (callG gLen (aCons (eVar 13) aNil))) noP) (eC (.str (PySem.Str.ofString "!")))) (aCons (lift2 gIdx (lift2 gAdd (eVar 4) (eC (.str (PySem.Str.ofString "!")))) (callG gLen (aCons (eVar 13) aNil))) aNil))))))))) aNil)))))
    (seqS (asgS (.nm 7) (callF 3 fn__law_pick (aCons (eVar 0) (aCons (eVar 1) (aCons (lstV (chk (aCons (eVar 3) (aCons (lift2 gSub (eC (.int 0)) (eC (.int 1))) (aCons (eC .none) (aCons (eC (.bool true)) (aCons (eC (.str (PySem.Str.ofString "0"))) aNil))))))) aNil)))))
    (seqS (asgS (.nm 8) (callF 3 fn__law_pick (aCons (eVar 0) (aCons (eVar 1) (aCons (lstV (chk (aCons (eC (.int 8)) (aCons (lift2 gSub (eC (.int 0)) (eC (.int 1))) (aCons (eC .none) (aCons (eC (.bool true)) (aCons (eC (.str (PySem.Str.ofString "0"))) aNil))))))) aNil)))))
    (seqS (asgS (.nm 9) (callF 3 fn__law_pick (aCons (eVar 0) (aCons (eVar 1) (aCons (lstV (chk (aCons (eC (.str (PySem.Str.ofString ""))) (aCons (eC (.str (PySem.Str.ofString "a1"))) (aCons (eC (.str (PySem.Str.ofString "(a)"))) (aCons (eC .none) (aCons (eC (.int 5)) (aCons (lift2 gMul (eC (.str (PySem.Str.ofString "a"))) (eC (.int 61))) (aCons (eC (.str (PySem.Str.ofString "A"))) (aCons (lift2 gIdx (lift2 gAdd (eVar 4) (eC (.str (PySem.Str.ofString "!")))) (callG gLen (aCons (eVar 13) aNil))) aNil)))))))))) aNil)))))
    (seqS (asgS (.nm 10) (callF 3 fn__law_pick (aCons (eVar 0) (aCons (eVar 1) (aCons (lstV (chk (aCons (eC (.int 1)) (aCons (eC (.int 101)) (aCons (eC .none) (aCons (eC (.bool true)) aNil)))))) aNil)))))
    (seqS (asgS (.nm 11) (callF 3 fn__law_pick (aCons (eVar 0) (aCons (eVar 1) (aCons (lstV (chk (aCons (eC (.int 12)) (aCons (lift2 gSub (eC (.int 0)) (eC (.int 1))) (aCons (eC .none) (aCons (eC (.bool true)) aNil)))))) aNil)))))
    (seqS (ownS 12 (chk (aCons (tupV (aCons (eC (.int 0)) (aCons (eVar 5) (aCons (eC .none) (aCons (eC .none) (aCons (eC (.str (PySem.Str.ofString "bars"))) aNil)))))) (aCons (tupV (aCons (eC (.int 2)) (aCons (eVar 6) (aCons (eVar 7) (aCons (eVar 8) (aCons (eC (.str (PySem.Str.ofString "bars"))) aNil)))))) (aCons (tupV (aCons (eC (.int 3)) (aCons (eVar 9) (aCons (eC .none) (aCons (eC .none) (aCons (eC (.str (PySem.Str.ofString "chain"))) aNil)))))) aNil)))))
    (seqS (iceS 12) (seqS (ownS 12 (addL (eVar 12) (lstV (chk (aCons (tupV (aCons (eC (.int 4)) (aCons (eVar 8) (aCons (eC .none) (aCons (eC .none) (aCons (eC (.str (PySem.Str.ofString "number"))) aNil)))))) (aCons (tupV (aCons (eC (.int 5)) (aCons (eVar 10) (aCons (eVar 11) (aCons (eC .none) (aCons (eC (.str (PySem.Str.ofString "number"))) aNil)))))) (aCons (tupV (aCons (eC (.int 5)) (aCons (eC (.int 12)) (aCons (eVar 11) (aCons (eC .none) (aCons (eC (.str (PySem.Str.ofString "number"))) aNil)))))) aNil)))))))
    (seqS (ifS (liftT gEq (eVar 13) (tupV aNil)) (upS 12 (tupV (aCons (eC (.int 1)) (aCons (eC .none) (aCons (eC .none) (aCons (eC .none) (aCons (eC (.str (PySem.Str.ofString "bars"))) aNil)))))) appU) (seqS (iceS 12) (seqS (ownS 12 (addL (eVar 12) (lstV (chk (aCons (tupV (aCons (eC (.int 2)) (aCons (eC (.str (PySem.Str.ofString "a"))) (aCons (eVar 7) (aCons (eC (.int 0)) (aCons (eC (.str (PySem.Str.ofString "number"))) aNil)))))) (aCons (tupV (aCons (eC (.int 2)) (aCons (eC (.str (PySem.Str.ofString "a"))) (aCons (eC (.int 0)) (aCons (eVar 8) (aCons (eC (.str (PySem.Str.ofString "number"))) aNil)))))) aNil))))))
    (ifS (liftT gIn (lift2 gIdx (eVar 4) (lift2 gSub (callG gLen (aCons (eVar 13) aNil)) (eC (.int 1)))) (eVar 15)) (upS 12 (tupV (aCons (eC (.int 1)) (aCons (eC .none) (aCons (eC .none) (aCons (eC .none) (aCons (eC (.str (PySem.Str.ofString "chain"))) aNil)))))) appU) skipS))))
    (seqS (iceS 12) (retS (callF 3 fn__law_pick (aCons (eVar 0) (aCons (eVar 1) (aCons (eVar 12) aNil))))))))))))))))))))
def fn__law_odd : Fn := fnB 18 b__law_odd
end BF.R

/-! BQ2: the defs' combinators. -/
namespace BF.R
open PySem L2 BF
abbrev el_bars_heard_1 : EF := (callG gTupOf (aCons (eVar 10) aNil))
def lc_bars_heard_1 : AF := lcF (walk (slF (eVar 6) (someP (lift2 gMul (eVar 9) (eVar 3))) (someP (lift2 gAdd (lift2 gMul (eVar 9) (eVar 3)) (eVar 3))))) (.nm 10) [10] yesT el_bars_heard_1
abbrev el_bars_heard_2 : EF := (callG gTupOf (aCons (lstV lc_bars_heard_1) aNil))
def lc_bars_heard_2 : AF := lcF (rng1 (eVar 5)) (.nm 9) [9] yesT el_bars_heard_2
def bd_bars_heard_1 : SF := (app2S 6 (eVar 7) (eVar 8))
def lp_bars_heard_1 : SF := forS (walk (eVar 4)) (.tp [7, 8]) bd_bars_heard_1
def lc_bars_heard_3 : AF := lcF (walk (eVar 4)) (.tp [7, 8]) [7, 8] yesT (eVar 7)
abbrev el_bars_heard_3 : EF := (tupV (aCons (eVar 7) (aCons (eVar 8) aNil)))
def lc_bars_heard_4 : AF := lcF (walk (callF 3 fn_laid_on (aCons (eVar 0) (aCons (eVar 1) (aCons (eVar 2) aNil))))) (.tp [7, 8, 11]) [7, 8, 11] yesT el_bars_heard_3
def b_bars_heard : SF := (seqS (dropS (callF 1 fn_look_heard (aCons (eVar 0) aNil)))
    (seqS (dropS (callF 2 fn_look_grid (aCons (eVar 1) (aCons (eVar 2) aNil))))
    (seqS (dropS (callF 1 fn_look_size (aCons (eVar 3) aNil)))
    (seqS (asgS (.nm 4) (lstV (ssF (lstV lc_bars_heard_4))))
    (seqS (asgS (.nm 5) (lift2 gAdd (lift2 gFdiv (callG gMax (aCons (lstV lc_bars_heard_3) aNil)) (eVar 3)) (eC (.int 1))))
    (seqS (ifS (liftT gGt (eVar 5) (eC (.int 60))) (raiseS 4) skipS)
    (seqS (own2S 6 (rng1 (lift2 gMul (eVar 5) (eVar 3))))
    (seqS lp_bars_heard_1
    (seqS (ice2S 6) (retS (lstV lc_bars_heard_2)))))))))))
def fn_bars_heard : Fn := fnB 12 b_bars_heard
end BF.R

/-! BQ3: the defs' combinators. -/
namespace BF.R
open PySem L2 BF
def lc_read_1 : AF := lcE (walk (lstV (methS gSplit (eVar 0) (eC (.str (PySem.Str.ofString ".")))))) (.nm 2) [2] (callF 1 fn_step_in (aCons (eVar 2) aNil))
def b_read : SF := (seqS (asgS (.nm 1) (callG gTupOf (aCons (lstV lc_read_1) aNil)))
    (seqS (ifS (orT (notT (truF (callF 1 fn_is_bar (aCons (eVar 1) aNil)))) (liftT gNe (callF 1 fn_bar_text (aCons (eVar 1) aNil)) (eVar 0))) (raiseS 5) skipS)
    (retS (eVar 1))))
def fn_read : Fn := fnB 3 b_read
abbrev el__law_read_1 : EF := (callG gIntA (aCons (eVar 4) aNil))
def lc__law_read_1 : AF := lcF (walk (eVar 3)) (.nm 4) [4] yesT el__law_read_1
abbrev if__law_read_1 : TF := (liftT gNotIn (eVar 4) (eC (.str (PySem.Str.ofString "01234567"))))
def lc__law_read_2 : AF := lcF (walk (eVar 3)) (.nm 4) [4] if__law_read_1 (eVar 4)
def bd__law_read_1 : SF := (seqS (asgS (.nm 3) (iteF (liftT gEq (eVar 2) (eC (.str (PySem.Str.ofString "-")))) (lstV (chk aNil)) (lstV (callG gListStr (aCons (eVar 2) aNil)))))
    (seqS (ifS (orT (liftT gEq (eVar 2) (eC (.str (PySem.Str.ofString "")))) (orT (liftT gNe (lstV lc__law_read_2) (lstV (chk aNil))) (liftT gNe (lstV (ssX (eVar 3))) (eVar 3)))) (retS (eC .none)) skipS)
    (upS 1 (callG gTupOf (aCons (lstV lc__law_read_1) aNil)) appU)))
def lp__law_read_1 : SF := forS (walk (lstV (methS gSplit (eVar 0) (eC (.str (PySem.Str.ofString ".")))))) (.nm 2) bd__law_read_1
def b__law_read : SF := (seqS (ownS 1 (chk aNil))
    (seqS lp__law_read_1
    (seqS (iceS 1) (retS (iteF (liftT gLt (callG gLen (aCons (eVar 1) aNil)) (eC (.int 17))) (callG gTupOf (aCons (eVar 1) aNil)) (eC .none))))))
def fn__law_read : Fn := fnB 5 b__law_read
abbrev if__law_is_text_1 : TF := (liftT gNotIn (eVar 3) (eC (.str (PySem.Str.ofString "01234567"))))
def lc__law_is_text_1 : AF := lcF (walk (eVar 2)) (.nm 3) [3] if__law_is_text_1 (eVar 3)
def bd__law_is_text_1 : SF := (seqS (ifS (andT (liftT gNe (eVar 2) (eC (.str (PySem.Str.ofString "-")))) (orT (liftT gEq (eVar 2) (eC (.str (PySem.Str.ofString "")))) (liftT gNe (lstV lc__law_is_text_1) (lstV (chk aNil))))) (retS (eC (.bool false))) skipS)
    (ifS (andT (liftT gNe (eVar 2) (eC (.str (PySem.Str.ofString "-")))) (liftT gNe (methS gJoin (eC (.str (PySem.Str.ofString ""))) (lstV (ssX (eVar 2)))) (eVar 2))) (retS (eC (.bool false))) skipS))
def lp__law_is_text_1 : SF := forS (walk (eVar 1)) (.nm 2) bd__law_is_text_1
def b__law_is_text : SF := (seqS (asgS (.nm 1) (lstV (methS gSplit (eVar 0) (eC (.str (PySem.Str.ofString "."))))))
    (seqS (ifS (liftT gGt (callG gLen (aCons (eVar 1) aNil)) (eC (.int 16))) (retS (eC (.bool false))) skipS)
    (seqS lp__law_is_text_1
    (retS (eC (.bool true))))))
def fn__law_is_text : Fn := fnB 4 b__law_is_text
def b__law_one_b : SF := (seqS (asgS (.nm 2) (lift2 gIdx (eVar 1) (eC (.int 1))))
    (seqS (ifS (liftT gEq (eVar 0) (eC (.int 13))) (retS (callF 1 fn_written (aCons (lift2 gIdx (eVar 2) (eC (.int 0))) aNil))) skipS)
    (seqS (ifS (liftT gEq (eVar 0) (eC (.int 14))) (retS (callF 1 fn_read (aCons (callF 1 fn_written (aCons (lift2 gIdx (eVar 2) (eC (.int 0))) aNil)) aNil))) skipS)
    (retS (eC .none)))))
def fn__law_one_b : Fn := fnB 3 b__law_one_b
end BF.R

/-! BP1: plain: values with a Lean type; comprehensions and loops over them. -/
namespace BF
open PySem L2 PySem.W

/-! ### typed values -/
class Lay (α : Type) [DecidableEq α] [Datum α] : Prop where
  lay : ∀ a : α, (Datum.toD a).canLay0 = true
  small : Datum.depth α ≤ 60
section
variable {α β : Type} [DecidableEq α] [Datum α] [Lay α] [DecidableEq β] [Datum β] [Lay β]
instance : Lay Int := ⟨fun _ => rfl, by decide⟩
instance : Lay Bool := ⟨fun _ => rfl, by decide⟩
theorem layAll : ∀ xs : List α, PyData.canLayAll0 (xs.map Datum.toD) = true
  | [] => rfl
  | x :: xs => by simp [PyData.canLayAll0, Lay.lay x, layAll xs]
end
section
variable {α : Type} [DecidableEq α] [Datum α] [Lay α]
theorem shaped_toD (a : α) : SeqAt.shaped (Datum.toD a) = true := by
  unfold SeqAt.shaped
  rw [Lay.lay, Bool.true_and, decide_eq_true_eq]
  exact Nat.le_trans (Datum.depth_le a) (Nat.le_trans (Lay.small (α := α)) (by decide))
theorem shaped_list (xs : List α) : SeqAt.shaped (.list (xs.map Datum.toD)) = true := by
  unfold SeqAt.shaped
  have h1 := depthAll_map xs
  have h2 := Lay.small (α := α)
  show (PyData.canLayAll0 _ && decide (PyData.depthAll _ + 1 ≤ 64)) = true
  rw [layAll, Bool.true_and, decide_eq_true_eq]
  omega
theorem shaped_tuple (xs : List α) : SeqAt.shaped (.tuple (xs.map Datum.toD)) = true := by
  unfold SeqAt.shaped
  have h1 := depthAll_map xs
  have h2 := Lay.small (α := α)
  show (PyData.canLayAll0 _ && decide (PyData.depthAll _ + 1 ≤ 64)) = true
  rw [layAll, Bool.true_and, decide_eq_true_eq]
  omega
theorem gEq_toD (a b : α) : gEq (Datum.toD a) (Datum.toD b) = some (decide (a = b)) := by
  unfold gEq
  rw [shaped_toD, shaped_toD, Bool.true_and, if_pos rfl, Datum.eqv]
theorem gNe_toD (a b : α) : gNe (Datum.toD a) (Datum.toD b) = some (!decide (a = b)) := by
  unfold gNe
  rw [shaped_toD, shaped_toD, Bool.true_and, if_pos rfl, Datum.eqv]
theorem any_toD (a : α) (xs : List α) : ((xs.map Datum.toD).any fun z => PyData.eqv z (Datum.toD a)) = decide (a ∈ xs) := by
  induction xs with
  | nil => simp
  | cons x xs ih =>
    rw [List.map_cons, List.any_cons, ih, Datum.eqv, ← Bool.decide_or]
    exact decide_eq_decide.mpr (by rw [List.mem_cons, eq_comm])
theorem gIn_list (d : D) (ds : List D) : gIn d (.list ds) = if (SeqAt.shaped d && SeqAt.shaped (.list ds)) = true then some (ds.any fun z => PyData.eqv z d) else none := by cases d <;> rfl
theorem gIn_tuple (d : D) (ds : List D) : gIn d (.tuple ds) = if (SeqAt.shaped d && SeqAt.shaped (.tuple ds)) = true then some (ds.any fun z => PyData.eqv z d) else none := by cases d <;> rfl
theorem gNotIn_list (d : D) (ds : List D) : gNotIn d (.list ds) = if (SeqAt.shaped d && SeqAt.shaped (.list ds)) = true then some (!ds.any fun z => PyData.eqv z d) else none := by cases d <;> rfl
theorem gNotIn_tuple (d : D) (ds : List D) : gNotIn d (.tuple ds) = if (SeqAt.shaped d && SeqAt.shaped (.tuple ds)) = true then some (!ds.any fun z => PyData.eqv z d) else none := by cases d <;> rfl
theorem gIn_l (a : α) (xs : List α) : gIn (Datum.toD a) (.list (xs.map Datum.toD)) = some (decide (a ∈ xs)) := by
  rw [gIn_list, shaped_toD, shaped_list, Bool.true_and, if_pos rfl, any_toD]
theorem gIn_t (a : α) (xs : List α) : gIn (Datum.toD a) (.tuple (xs.map Datum.toD)) = some (decide (a ∈ xs)) := by
  rw [gIn_tuple, shaped_toD, shaped_tuple, Bool.true_and, if_pos rfl, any_toD]
theorem gNotIn_l (a : α) (xs : List α) : gNotIn (Datum.toD a) (.list (xs.map Datum.toD)) = some (!decide (a ∈ xs)) := by
  rw [gNotIn_list, shaped_toD, shaped_list, Bool.true_and, if_pos rfl, any_toD]
theorem gNotIn_t (a : α) (xs : List α) : gNotIn (Datum.toD a) (.tuple (xs.map Datum.toD)) = some (!decide (a ∈ xs)) := by
  rw [gNotIn_tuple, shaped_toD, shaped_tuple, Bool.true_and, if_pos rfl, any_toD]
end
section
variable {α β γ : Type} [DecidableEq α] [Datum α] [Lay α] [DecidableEq β] [Datum β] [Lay β] [DecidableEq γ] [Datum γ] [Lay γ]
/-- small types whose values nest a few times -/
class Lay1 (α : Type) [DecidableEq α] [Datum α] : Prop extends Lay α where
  few : Datum.depth α ≤ 40
end
instance : Lay (List Int) := ⟨fun xs => by show PyData.canLayAll0 _ = true; exact layAll xs, by decide⟩
instance : Lay (Tup Int) := ⟨fun xs => by show PyData.canLayAll0 _ = true; exact layAll xs.items, by decide⟩
instance : Lay (Tup (Tup Int)) := ⟨fun xs => by show PyData.canLayAll0 _ = true; exact layAll xs.items, by decide⟩
instance : Lay (List (Tup (Tup Int))) := ⟨fun xs => by show PyData.canLayAll0 _ = true; exact layAll xs, by decide⟩
instance : Lay (Int × Int) := ⟨fun xs => rfl, by decide⟩
instance : Lay (List (Int × Int)) := ⟨fun xs => by show PyData.canLayAll0 _ = true; exact layAll xs, by decide⟩

/-! ### comprehensions -/
theorem lcLoop_ok {tg : Tgt} {tt : TF} {te : EF} {α : Type} {ρ : Slots} {st : Sto} (enc : α → D) (p : α → Bool) (f : α → D) : ∀ (xs : List α) (acc : List D),
    (∀ x ∈ xs, ∃ ρ', tg.set (enc x) ρ = some ρ' ∧ tt ρ' st = .ok (p x) st ∧ (p x = true → te ρ' st = .ok (f x) st)) → lcLoop tg tt te (xs.map enc) ρ st acc = .ok (acc ++ (xs.filter p).map f) st
  | [], acc, _ => by simp [lcLoop]
  | x :: xs, acc, h => by
    obtain ⟨ρ', h1, h2, h3⟩ := h x (by simp)
    have ih := fun acc => lcLoop_ok enc p f xs acc fun y hy => h y (List.mem_cons_of_mem _ hy)
    rw [List.map_cons]
    unfold lcLoop
    rw [h1]
    simp only [h2, noErr, EO.bnd_ok]
    cases hp : p x with
    | true =>
      rw [if_pos rfl, h3 hp]
      simp only [noErr, EO.bnd_ok]
      rw [ih]
      simp [hp]
    | false =>
      rw [if_neg (by simp), ih]
      simp [hp]
theorem lc_ok {fi : AF} {tg : Tgt} {vs : List Nat} {tt : TF} {te : EF} {α : Type} {ρ : Slots} {st st' : Sto} (enc : α → D) (xs : List α) (p : α → Bool) (f : α → D) (hi : fi ρ st = .ok (xs.map enc) st')
    (h : ∀ x ∈ xs, ∃ ρ', tg.set (enc x) (wipeS ρ vs) = some ρ' ∧ tt ρ' st' = .ok (p x) st' ∧ (p x = true → te ρ' st' = .ok (f x) st')) : lcF fi tg vs tt te ρ st = .ok ((xs.filter p).map f) st' := by
  unfold lcF
  rw [hi, EO.bnd_ok, lcLoop_ok enc p f xs [] h, List.nil_append]
/-- all of them -/
theorem lc_all {fi : AF} {tg : Tgt} {vs : List Nat} {te : EF} {α : Type} {ρ : Slots} {st st' : Sto} (enc : α → D) (xs : List α) (f : α → D) (hi : fi ρ st = .ok (xs.map enc) st')
    (h : ∀ x ∈ xs, ∃ ρ', tg.set (enc x) (wipeS ρ vs) = some ρ' ∧ te ρ' st' = .ok (f x) st') : lcF fi tg vs yesT te ρ st = .ok (xs.map f) st' := by
  have := lc_ok (tt := yesT) (te := te) (st := st) (st' := st') (tg := tg) enc xs (fun _ => true) f hi fun x hx => by
    obtain ⟨ρ', h1, h2⟩ := h x hx
    exact ⟨ρ', h1, rfl, fun _ => h2⟩
  rw [this, List.filter_eq_self.mpr fun _ _ => rfl]
/-- each time the store may change: the values are those of a relation -/
theorem lcLoop_st {tg : Tgt} {te : EF} {α : Type} {ρ : Slots} (enc : α → D) (I : Nat → List D → Sto → Prop) : ∀ (xs : List α) (n : Nat) (acc : List D) (st : Sto), I n acc st →
    (∀ i x, xs[i]? = some x → ∀ acc st, I (n + i) acc st → ∃ ρ' d st', tg.set (enc x) ρ = some ρ' ∧ te ρ' st = .ok d st' ∧ I (n + i + 1) (acc ++ [d]) st') →
    ∃ acc' st', lcLoop tg yesT te (xs.map enc) ρ st acc = .ok acc' st' ∧ I (n + xs.length) acc' st'
  | [], n, acc, st, h0, _ => ⟨acc, st, rfl, h0⟩
  | x :: xs, n, acc, st, h0, h => by
    obtain ⟨ρ', d, st', h1, h2, h3⟩ := h 0 x rfl acc st h0
    obtain ⟨acc', st2, h4, h5⟩ := lcLoop_st enc I xs (n + 1) (acc ++ [d]) st' h3 fun i y hy acc st hI => by
      have := h (i + 1) y hy acc st (by rw [show n + (i + 1) = n + 1 + i by omega]; exact hI)
      rw [show n + (i + 1) = n + 1 + i by omega] at this
      exact this
    refine ⟨acc', st2, ?_, by rw [List.length_cons, show n + (xs.length + 1) = n + 1 + xs.length by omega]; exact h5⟩
    rw [List.map_cons]
    unfold lcLoop
    rw [h1]
    simp only [yesT, noErr, EO.bnd_ok, if_true, h2]
    exact h4
theorem lc_st {fi : AF} {tg : Tgt} {vs : List Nat} {te : EF} {α : Type} {ρ : Slots} {st st1 : Sto} (enc : α → D) (xs : List α) (I : Nat → List D → Sto → Prop) (hi : fi ρ st = .ok (xs.map enc) st1) (h0 : I 0 [] st1)
    (h : ∀ i x, xs[i]? = some x → ∀ acc st, I i acc st → ∃ ρ' d st', tg.set (enc x) (wipeS ρ vs) = some ρ' ∧ te ρ' st = .ok d st' ∧ I (i + 1) (acc ++ [d]) st') :
    ∃ acc' st', lcF fi tg vs yesT te ρ st = .ok acc' st' ∧ I xs.length acc' st' := by
  obtain ⟨a, s, e, hI⟩ := lcLoop_st (tg := tg) (te := te) (ρ := wipeS ρ vs) enc I xs 0 [] st1 h0 (by simpa using h)
  refine ⟨a, s, ?_, by simpa using hI⟩
  unfold lcF
  rw [hi, EO.bnd_ok, e]

/-! ### loops -/
theorem for_nx {t : Tgt} {body : SF} {α : Type} (enc : α → D) (I : Nat → Slots → Sto → Prop) : ∀ (xs : List α) (n : Nat) (ρ : Slots) (st : Sto), I n ρ st →
    (∀ i x, xs[i]? = some x → ∀ ρ st, I (n + i) ρ st → ∃ ρ' ρ2 st2, t.set (enc x) ρ = some ρ' ∧ body ρ' st = .nx ρ2 st2 ∧ I (n + i + 1) ρ2 st2) →
    ∃ ρ' st', forLoop t body (xs.map enc) ρ st = .nx ρ' st' ∧ I (n + xs.length) ρ' st'
  | [], n, ρ, st, h0, _ => ⟨ρ, st, rfl, h0⟩
  | x :: xs, n, ρ, st, h0, h => by
    obtain ⟨ρ', ρ2, st2, h1, h2, h3⟩ := h 0 x rfl ρ st h0
    obtain ⟨ρ3, st3, h4, h5⟩ := for_nx enc I xs (n + 1) ρ2 st2 h3 fun i y hy ρ st hI => by
      have := h (i + 1) y hy ρ st (by rw [show n + (i + 1) = n + 1 + i by omega]; exact hI)
      rw [show n + (i + 1) = n + 1 + i by omega] at this
      exact this
    refine ⟨ρ3, st3, ?_, by rw [List.length_cons, show n + (xs.length + 1) = n + 1 + xs.length by omega]; exact h5⟩
    rw [List.map_cons]
    unfold forLoop
    rw [h1]
    simp only [h2]
    exact h4
theorem forS_nx {fi : AF} {t : Tgt} {body : SF} {α : Type} {ρ : Slots} {st st1 : Sto} (enc : α → D) (xs : List α) (I : Nat → Slots → Sto → Prop) (hi : fi ρ st = .ok (xs.map enc) st1) (h0 : I 0 ρ st1)
    (h : ∀ i x, xs[i]? = some x → ∀ ρ st, I i ρ st → ∃ ρ' ρ2 st2, t.set (enc x) ρ = some ρ' ∧ body ρ' st = .nx ρ2 st2 ∧ I (i + 1) ρ2 st2) :
    ∃ ρ' st', forS fi t body ρ st = .nx ρ' st' ∧ I xs.length ρ' st' := by
  obtain ⟨a, s, e, hI⟩ := for_nx (t := t) (body := body) enc I xs 0 ρ st1 h0 (by simpa using h)
  refine ⟨a, s, ?_, by simpa using hI⟩
  unfold forS
  rw [hi, SO.ofE_ok, e]

/-! ### one step each -/
section
variable {α : Type} {ρ ρ' : Slots} {st s1 s2 s3 : Sto} {f g : EF} {t u : TF} {a b : SF} {o : SO} {d e x y : D} {k k2 : Bool}
theorem ev_lift1 {h : D → Option D} (h1 : f ρ st = .ok x s1) (h2 : h x = some y) : lift1 h f ρ st = .ok y s1 := by unfold lift1; rw [h1, EO.bnd_ok, h2]; rfl
theorem ev_lift2 {h : D → D → Option D} (h1 : f ρ st = .ok x s1) (h2 : g ρ s1 = .ok y s2) (h3 : h x y = some d) : lift2 h f g ρ st = .ok d s2 := by unfold lift2; rw [h1, EO.bnd_ok, h2, EO.bnd_ok, h3]; rfl
theorem ev_liftT {h : D → D → Option Bool} (h1 : f ρ st = .ok x s1) (h2 : g ρ s1 = .ok y s2) (h3 : h x y = some k) : liftT h f g ρ st = .ok k s2 := by unfold liftT; rw [h1, EO.bnd_ok, h2, EO.bnd_ok, h3]; rfl
theorem ev_tv (h1 : t ρ st = .ok k s1) : tv t ρ st = .ok (.bool k) s1 := by unfold tv; rw [h1]; rfl
theorem ev_not (h1 : t ρ st = .ok k s1) : notT t ρ st = .ok (!k) s1 := by unfold notT; rw [h1]; rfl
theorem ev_tru (h1 : f ρ st = .ok x s1) (h2 : gTru x = some k) : truF f ρ st = .ok k s1 := by unfold truF; rw [h1, EO.bnd_ok, h2]; rfl
theorem ev_truB (h1 : f ρ st = .ok (.bool k) s1) : truF f ρ st = .ok k s1 := ev_tru h1 rfl
theorem ev_bV (h1 : f ρ st = .ok (.bool k) s1) : bV f ρ st = .ok k s1 := by unfold bV; rw [h1]; rfl
theorem ev_and (h1 : t ρ st = .ok true s1) (h2 : u ρ s1 = .ok k s2) : andT t u ρ st = .ok k s2 := by unfold andT; rw [h1, EO.bnd_ok, if_pos rfl, h2]
theorem ev_and0 (h1 : t ρ st = .ok false s1) : andT t u ρ st = .ok false s1 := by unfold andT; rw [h1]; rfl
theorem ev_andB (h1 : t ρ st = .ok k s1) (h2 : k = true → u ρ s1 = .ok k2 s1) : andT t u ρ st = .ok (k && k2) s1 := by
  cases k with
  | true => rw [ev_and h1 (h2 rfl)]; rfl
  | false => rw [ev_and0 h1]; rfl
theorem ev_or (h1 : t ρ st = .ok false s1) (h2 : u ρ s1 = .ok k s2) : orT t u ρ st = .ok k s2 := by unfold orT; rw [h1, EO.bnd_ok, if_neg (by simp), h2]
theorem ev_or1 (h1 : t ρ st = .ok true s1) : orT t u ρ st = .ok true s1 := by unfold orT; rw [h1]; rfl
theorem ev_orB (h1 : t ρ st = .ok k s1) (h2 : k = false → u ρ s1 = .ok k2 s1) : orT t u ρ st = .ok (k || k2) s1 := by
  cases k with
  | false => rw [ev_or h1 (h2 rfl)]; rfl
  | true => rw [ev_or1 h1]; rfl
theorem ev_ite {α : Type} {f g : XF α} {r : EO α} (h1 : t ρ st = .ok k s1) (h2 : (if k = true then f ρ s1 else g ρ s1) = r) : iteF t f g ρ st = r := by unfold iteF; rw [h1, EO.bnd_ok, h2]
theorem ev_nil : aNil ρ st = .ok [] st := rfl
theorem ev_cons {r : AF} {ds : List D} (h1 : f ρ st = .ok d s1) (h2 : r ρ s1 = .ok ds s2) : aCons f r ρ st = .ok (d :: ds) s2 := by unfold aCons; rw [h1, EO.bnd_ok, h2]; rfl
theorem ev_one (h1 : f ρ st = .ok d s1) : aCons f aNil ρ st = .ok [d] s1 := ev_cons h1 rfl
theorem ev_two (h1 : f ρ st = .ok d s1) (h2 : g ρ s1 = .ok e s2) : aCons f (aCons g aNil) ρ st = .ok [d, e] s2 := ev_cons h1 (ev_one h2)
theorem ev_call {n : Nat} {fn : Fn} {r : AF} {ds : List D} {q : EO D} (h1 : r ρ st = .ok ds s1) (h2 : fn ds s1 = q) (hn : ds.length = n := by rfl) : callF n fn r ρ st = q := by unfold callF; rw [h1, EO.bnd_ok, if_pos hn, h2]
theorem ev_callG {α : Type} {h : List D → Option α} {r : AF} {ds : List D} {z : α} (h1 : r ρ st = .ok ds s1) (h2 : h ds = some z) : callG h r ρ st = .ok z s1 := by unfold callG; rw [h1, EO.bnd_ok, h2]; rfl
theorem ev_lstV {r : AF} {ds : List D} (h1 : r ρ st = .ok ds s1) : lstV r ρ st = .ok (.list ds) s1 := by unfold lstV; rw [h1]; rfl
theorem ev_tupV {r : AF} {ds : List D} (h1 : r ρ st = .ok ds s1) (hn : ds.length ≤ 1000 := by first | decide | simp) : tupV r ρ st = .ok (.tuple ds) s1 := by unfold tupV; rw [h1, EO.bnd_ok, if_pos hn]
theorem ev_chk {r : AF} {ds : List D} (h1 : r ρ st = .ok ds s1) (hn : ds.length ≤ 1000 := by first | decide | simp) : chk r ρ st = .ok ds s1 := by unfold chk; rw [h1, EO.bnd_ok, if_pos hn]
theorem ev_walk {ds : List D} (h1 : f ρ st = .ok x s1) (h2 : itemsOf x = some ds) : walk f ρ st = .ok ds s1 := by unfold walk; rw [h1, EO.bnd_ok, h2]; rfl
theorem ev_rng1 {j : Int} (h1 : f ρ st = .ok (.int j) s1) (h2 : -1000000 ≤ j ∧ j ≤ 1000000) : rng1 f ρ st = .ok ((List.range j.toNat).map fun i => .int (i : Nat)) s1 := by unfold rng1; rw [h1, EO.bnd_ok]; exact if_pos h2
theorem ev_ch {g1 g2 : D → D → Option Bool} {h : EF} {z : D} (h1 : f ρ st = .ok x s1) (h2 : g ρ s1 = .ok y s2) (h3 : g1 x y = some k) (h4 : h ρ s2 = .ok z s2) (h5 : g2 y z = some k2) : chT g1 g2 f g h ρ st = .ok (k && k2) s2 := by
  unfold chT
  rw [h1, EO.bnd_ok, h2, EO.bnd_ok, h3, EO.ofO_some, EO.bnd_ok]
  cases k with
  | true => rw [if_pos rfl, h4, EO.bnd_ok, h5]; rfl
  | false => rfl
theorem s_if1 (h : t ρ st = .ok true s1) (h2 : a ρ s1 = o) : ifS t a b ρ st = o := by unfold ifS; rw [h, SO.ofE_ok, if_pos rfl, h2]
theorem s_if0 (h : t ρ st = .ok false s1) (h2 : b ρ s1 = o) : ifS t a b ρ st = o := by unfold ifS; rw [h, SO.ofE_ok, if_neg (by simp), h2]
theorem s_if (h : t ρ st = .ok k s1) (h2 : (if k = true then a ρ s1 else b ρ s1) = o) : ifS t a b ρ st = o := by unfold ifS; rw [h, SO.ofE_ok, h2]
theorem s_ret (h : f ρ st = .ok d s1) : retS f ρ st = .rt d s1 := by unfold retS; rw [h]; rfl
theorem s_set {i : Nat} (h : f ρ st = .ok d s1) (h2 : ρ.set i (.val d) = ρ' := by rfl) : asgS (.nm i) f ρ st = .nx ρ' s1 := by unfold asgS; rw [h, ← h2]; rfl
theorem s_own {i : Nat} {r : AF} {ds : List D} (h : r ρ st = .ok ds s1) (hi : i < ρ.length) (h2 : ρ.set i (.own ds) = ρ' := by rfl) : ownS i r ρ st = .nx ρ' s1 := by unfold ownS; rw [h, SO.ofE_ok, if_pos hi, h2]
theorem s_drop (h : f ρ st = .ok d s1) : dropS f ρ st = .nx ρ s1 := by unfold dropS; rw [h]; rfl
theorem s_dropE {c : Nat} (h : f ρ st = .err c s1) : dropS f ρ st = .err c ρ s1 := by unfold dropS; rw [h]; rfl
theorem s_ice {i : Nat} {ds : List D} (h : ρ[i]? = some (.own ds)) (h2 : ρ.set i (.val (.list ds)) = ρ' := by rfl) : iceS i ρ st = .nx ρ' st := by unfold iceS; rw [h, ← h2]; rfl
theorem s_app {i : Nat} {ds : List D} (h : ρ[i]? = some (.own ds)) (h1 : f ρ st = .ok d s1) (h2 : ds.length < 16777216) : upS i f appU ρ st = .nx (ρ.set i (.own (ds ++ [d]))) s1 := by
  unfold upS; rw [h]; show SO.ofE (f ρ st) _ _ = _; rw [h1, SO.ofE_ok]; unfold appU; rw [if_pos h2]
theorem s_ext {i : Nat} {ds es : List D} (h : ρ[i]? = some (.own ds)) (h1 : f ρ st = .ok (.list es) s1) (h2 : ds.length + es.length ≤ 16777216) : upS i f extU ρ st = .nx (ρ.set i (.own (ds ++ es))) s1 := by
  unfold upS; rw [h]; show SO.ofE (f ρ st) _ _ = _; rw [h1, SO.ofE_ok]; unfold extU; simp only [if_pos h2]
theorem seqR (h : a ρ st = .rt d s1) : seqS a b ρ st = .rt d s1 := by unfold seqS; rw [h]; rfl
theorem seqX {c : Nat} (h : a ρ st = .err c ρ' s1) : seqS a b ρ st = .err c ρ' s1 := by unfold seqS; rw [h]; rfl
theorem ev_callE {n c : Nat} {fn : Fn} {r : AF} {ds : List D} (h1 : r ρ st = .ok ds s1) (h2 : fn ds s1 = .err c s2) (hn : ds.length = n := by rfl) : callF n fn r ρ st = .err c s2 := by unfold callF; rw [h1, EO.bnd_ok, if_pos hn, h2]
end
end BF

/-! BP2: plain: steps, bars. -/
namespace BF
open PySem L2 PySem.W R

/-! ### numbers -/
def isW (lo hi : Int) : D → Bool
  | .int i => decide (lo ≤ i) && decide (i ≤ hi)
  | _ => false
def isDc : D → Bool
  | .dict _ => true
  | _ => false
theorem is_whole_eq {d : D} {lo hi : Int} {st : Sto} (h : isDc d = false) : fn_is_whole [d, .int lo, .int hi] st = .ok (.bool (isW lo hi d)) st := by
  cases d with
  | int i =>
    by_cases h1 : lo ≤ i
    · simp [fn_is_whole, b_is_whole, fnB, retS, tv, andT, bV, lift1, isiD, eVar, tyN, kitB, notT, chT, gLe, isW, h1]
      rfl
    · simp [fn_is_whole, b_is_whole, fnB, retS, tv, andT, bV, lift1, isiD, eVar, tyN, kitB, notT, chT, gLe, isW, h1]
      rfl
  | dict => cases h
  | _ => rfl

/-! ### steps -/
def stepB : D → Bool
  | .tuple xs => xs.all (isW 0 7) && (match isIntss xs with
    | some ns => decide (setU ltI ns = ns)
    | none => false)
  | _ => false
def stepDom : D → Bool
  | .tuple xs => decide (xs.length ≤ 60) && xs.all fun x => !isDc x
  | .dict _ => false
  | _ => true
theorem isBls_map' (l : List α) (f : α → Bool) : isBls (l.map fun x => .bool (f x)) = some (l.map f) := by
  induction l with
  | nil => rfl
  | cons x l ih => simp [isBls, ih]
theorem all_eq {α : Type} {ρ : Slots} {st : Sto} {F : AF} {l : List α} {f : α → Bool} (h : F ρ st = .ok (l.map fun x => .bool (f x)) st) : callG gAll (aCons (lstV F) aNil) ρ st = .ok (.bool (l.all f)) st := by
  simp only [callG, aCons, lstV, h, EO.bnd_ok, aNil, gAll, isBls_map', Option.map_some, EO.ofO_some, List.all_map]
  rfl
theorem intss_of_all {lo hi : Int} : ∀ {xs : List D}, xs.all (isW lo hi) = true → ∃ ns : List Int, xs = ns.map .int ∧ ∀ m ∈ ns, lo ≤ m ∧ m ≤ hi
  | [], _ => ⟨[], rfl, by simp⟩
  | x :: xs, h => by
    simp only [List.all_cons, Bool.and_eq_true] at h
    obtain ⟨ns, rfl, h2⟩ := intss_of_all h.2
    cases x with
    | int i =>
      have h1 := h.1
      simp only [isW, Bool.and_eq_true, decide_eq_true_eq] at h1
      refine ⟨i :: ns, rfl, fun m hm => ?_⟩
      rcases List.mem_cons.mp hm with rfl | hm
      · exact h1
      · exact h2 m hm
    | _ => have h1 := h.1; cases h1
theorem step_lc {xs : List D} {st : Sto} (h : ∀ x ∈ xs, isDc x = false) : lc_is_step_1 [.val (.tuple xs), .emp] st = .ok (xs.map fun x => .bool (isW 0 7 x)) st := by
  have := lc_all (fi := walk (eVar 0)) (tg := .nm 1) (vs := [1]) (te := el_is_step_1) (ρ := [.val (.tuple xs), .emp]) (st := st) (st' := st) id xs (fun x => .bool (isW 0 7 x)) (by simp [walk, eVar, itemsOf]) fun x hx => by
    refine ⟨_, rfl, ?_⟩
    show (fn_is_whole [x, .int 0, .int 7] st) = _
    exact is_whole_eq (h x hx)
  exact this
theorem is_step_eq {d : D} {st : Sto} (h : stepDom d = true) : fn_is_step [d] st = .ok (.bool (stepB d)) st := by
  cases d with
  | tuple xs =>
    simp only [stepDom, Bool.and_eq_true, decide_eq_true_eq, List.all_eq_true, Bool.not_eq_true'] at h
    have h1 := step_lc (st := st) h.2
    have h2 := all_eq h1
    by_cases ha : xs.all (isW 0 7) = true
    · obtain ⟨ns, rfl, hns⟩ := intss_of_all ha
      have hl : ns.length ≤ 60 := by simpa using h.1
      rw [ha] at h2
      have hs : gSortSet (.tuple (ns.map .int)) = some ((setU ltI ns).map .int) := by simp [gSortSet, isIntss_of, hl]
      have he : gEq (.list ((setU ltI ns).map .int)) (.list (ns.map .int)) = some (decide (setU ltI ns = ns)) := gEq_toD (α := List Int) _ _
      have hb : stepB (.tuple (ns.map .int)) = decide (setU ltI ns = ns) := by simp only [stepB, ha, isIntss_of, Bool.true_and]
      rw [hb]
      refine fnB_rt ?_
      refine seqE (ρ' := [.val (.tuple (ns.map .int)), .emp]) (st' := st) ?_ ?_
      · show SO.ofE ((notT (truF (lift1 (isiD "tuple") (eVar 0))) [.val (.tuple (ns.map .int)), .emp] st).bnd fun b st => if b = true then EO.ok true st else (notT (truF (callG gAll (aCons (lstV lc_is_step_1) aNil)))) [.val (.tuple (ns.map .int)), .emp] st) _ _ = _
        rw [show (notT (truF (lift1 (isiD "tuple") (eVar 0))) [.val (.tuple (ns.map .int)), .emp] st) = .ok false st from rfl, EO.bnd_ok, if_neg (by simp)]
        simp only [notT, truF, h2, EO.bnd_ok, gTru, EO.ofO_some]
        rfl
      · simp only [retS, tv, liftT, lstV, ssF, eVar, List.getElem?_cons_zero, EO.bnd_ok, hs, EO.ofO_some, callG, aCons, aNil, gListOf, he, SO.ofE_ok]
    · have ha' : xs.all (isW 0 7) = false := by simpa using ha
      rw [ha'] at h2
      have hb : stepB (.tuple xs) = false := by simp only [stepB, ha', Bool.false_and]
      rw [hb]
      refine fnB_rt ?_
      unfold b_is_step seqS
      have : ifS (orT (notT (truF (lift1 (isiD "tuple") (eVar 0)))) (notT (truF (callG gAll (aCons (lstV lc_is_step_1) aNil))))) (retS (eC (.bool false))) skipS [.val (.tuple xs), .emp] st = .rt (.bool false) st := by
        show SO.ofE ((notT (truF (lift1 (isiD "tuple") (eVar 0))) [.val (.tuple xs), .emp] st).bnd fun b st => if b = true then EO.ok true st else (notT (truF (callG gAll (aCons (lstV lc_is_step_1) aNil)))) [.val (.tuple xs), .emp] st) _ _ = _
        rw [show (notT (truF (lift1 (isiD "tuple") (eVar 0))) [.val (.tuple xs), .emp] st) = .ok false st from rfl, EO.bnd_ok, if_neg (by simp)]
        simp only [notT, truF, h2, EO.bnd_ok, gTru, EO.ofO_some]
        rfl
      show SO.thn (ifS _ _ _ [.val (.tuple xs), .emp] st) _ = _
      rw [this]; rfl
  | dict => cases h
  | _ => rfl

/-! ### bars -/
def barB : D → Bool
  | .tuple xs => decide (1 ≤ xs.length ∧ xs.length ≤ 16) && xs.all stepB
  | _ => false
def barDom : D → Bool
  | .tuple xs => !decide (1 ≤ xs.length ∧ xs.length ≤ 16) || xs.all stepDom
  | .dict _ => false
  | _ => true
theorem bar_lc {xs : List D} {st : Sto} (h : ∀ x ∈ xs, stepDom x = true) : lc_is_bar_1 [.val (.tuple xs), .emp] st = .ok (xs.map fun x => .bool (stepB x)) st := by
  have := lc_all (fi := walk (eVar 0)) (tg := .nm 1) (vs := [1]) (te := el_is_bar_1) (ρ := [.val (.tuple xs), .emp]) (st := st) (st' := st) id xs (fun x => .bool (stepB x)) (by simp [walk, eVar, itemsOf]) fun x hx => by
    refine ⟨_, rfl, ?_⟩
    show (fn_is_step [x] st) = _
    exact is_step_eq (h x hx)
  exact this
theorem is_bar_eq {d : D} {st : Sto} (h : barDom d = true) : fn_is_bar [d] st = .ok (.bool (barB d)) st := by
  cases d with
  | tuple xs =>
    refine fnB_rt ?_
    by_cases hl : 1 ≤ xs.length ∧ xs.length ≤ 16
    · have h' : ∀ x ∈ xs, stepDom x = true := by
        simp only [barDom, hl, and_self, decide_true, Bool.not_true, Bool.false_or, List.all_eq_true] at h
        exact h
      have h2 := all_eq (bar_lc (st := st) h')
      have hb : barB (.tuple xs) = xs.all stepB := by simp [barB, hl]
      rw [hb]
      have e1 : (1 : Int) ≤ (xs.length : Int) := by omega
      have e2 : (xs.length : Int) ≤ 16 := by omega
      show SO.ofE ((andT (bV (lift1 (isiD "tuple") (eVar 0))) (andT (chT gLe gLe (eC (.int 1)) (callG gLen (aCons (eVar 0) aNil)) (eC (.int 16))) (bV (callG gAll (aCons (lstV lc_is_bar_1) aNil)))) [.val (.tuple xs), .emp] st).bnd fun b st => EO.ok (PyData.bool b) st) _ _ = _
      unfold andT
      rw [show bV (lift1 (isiD "tuple") (eVar 0)) [.val (.tuple xs), .emp] st = .ok true st from rfl, EO.bnd_ok, if_pos rfl]
      rw [show (chT gLe gLe (eC (.int 1)) (callG gLen (aCons (eVar 0) aNil)) (eC (.int 16))) [.val (.tuple xs), .emp] st = .ok true st by simp [chT, callG, aCons, aNil, eVar, gLen, gLe, e1, e2], EO.bnd_ok, if_pos rfl]
      simp only [bV, h2, EO.bnd_ok, SO.ofE_ok]
    · have hb : barB (.tuple xs) = false := by simp [barB, hl]
      rw [hb]
      show SO.ofE ((andT (bV (lift1 (isiD "tuple") (eVar 0))) (andT (chT gLe gLe (eC (.int 1)) (callG gLen (aCons (eVar 0) aNil)) (eC (.int 16))) (bV (callG gAll (aCons (lstV lc_is_bar_1) aNil)))) [.val (.tuple xs), .emp] st).bnd fun b st => EO.ok (PyData.bool b) st) _ _ = _
      unfold andT
      rw [show bV (lift1 (isiD "tuple") (eVar 0)) [.val (.tuple xs), .emp] st = .ok true st from rfl, EO.bnd_ok, if_pos rfl]
      have hc : (chT gLe gLe (eC (.int 1)) (callG gLen (aCons (eVar 0) aNil)) (eC (.int 16))) [.val (.tuple xs), .emp] st = .ok false st := by
        by_cases e1 : (1 : Int) ≤ (xs.length : Int)
        · have e2 : ¬ (xs.length : Int) ≤ 16 := by omega
          simp [chT, callG, aCons, aNil, eVar, gLen, gLe, e1, e2]
        · simp [chT, callG, aCons, aNil, eVar, gLen, gLe, e1]
      rw [hc]
      rfl
  | dict => cases h
  | _ => rfl

/-! ### rows of bars -/
def lenB : D → Nat
  | .tuple xs => xs.length
  | _ => 0
def lookB : D → Bool
  | .list xs => decide (1 ≤ xs.length ∧ xs.length ≤ 60) && (xs.all barB && xs.all fun x => decide (lenB x = lenB (xs.headD .none)))
  | _ => false
def lookDom : D → Bool
  | .list xs => !decide (1 ≤ xs.length ∧ xs.length ≤ 60) || xs.all barDom
  | .dict _ => false
  | _ => true
theorem look_lc2 {xs : List D} {st : Sto} (h : ∀ x ∈ xs, barDom x = true) : lc_look_bars_2 [.val (.list xs), .emp] st = .ok (xs.map fun x => .bool (barB x)) st :=
  lc_all (fi := walk (eVar 0)) (tg := .nm 1) (vs := [1]) (te := el_look_bars_2) (ρ := [.val (.list xs), .emp]) (st := st) (st' := st) id xs (fun x => .bool (barB x)) (by simp [walk, eVar, itemsOf]) fun x hx =>
    ⟨_, rfl, (is_bar_eq (h x hx) : fn_is_bar [x] st = _)⟩
theorem barB_tup {x : D} (h : barB x = true) : ∃ ys, x = .tuple ys := by
  cases x with
  | tuple ys => exact ⟨ys, rfl⟩
  | _ => cases h
theorem gIdx_l0 (x : D) (xs : List D) : gIdx (.list (x :: xs)) (.int 0) = some x := by
  show atI (x :: xs) 0 = some x
  rw [atI_nat (by decide) (by simp)]; rfl
theorem look_lc1 {x0 : D} {xs : List D} {st : Sto} (h : ∀ x ∈ x0 :: xs, barB x = true) : lc_look_bars_1 [.val (.list (x0 :: xs)), .emp] st = .ok ((x0 :: xs).map fun x => .bool (decide (lenB x = lenB x0))) st :=
  lc_all (fi := walk (eVar 0)) (tg := .nm 1) (vs := [1]) (te := el_look_bars_1) (ρ := [.val (.list (x0 :: xs)), .emp]) (st := st) (st' := st) id (x0 :: xs) (fun x => .bool (decide (lenB x = lenB x0))) (by simp [walk, eVar, itemsOf]) fun x hx => by
    obtain ⟨ys, rfl⟩ := barB_tup (h x hx)
    obtain ⟨zs, rfl⟩ := barB_tup (h x0 (by simp))
    refine ⟨_, rfl, ev_tv (ev_liftT (x := .int ys.length) (y := .int zs.length) (s1 := st) (s2 := st) (ev_callG (ds := [.tuple ys]) rfl rfl) (ev_callG (ds := [.tuple zs]) (ev_one (ev_lift2 (x := .list (.tuple zs :: xs)) (y := .int 0) (s1 := st) (s2 := st) rfl rfl (gIdx_l0 _ _))) rfl) ?_)⟩
    rw [show gEq (.int ys.length) (.int zs.length) = some (decide ((ys.length : Int) = zs.length)) from gEq_toD (α := Int) _ _]
    exact congrArg some (decide_eq_decide.mpr (by show _ ↔ ys.length = zs.length; omega))
theorem look_bars_eq {d : D} {st : Sto} (h : lookDom d = true) : fn_look_bars [d] st = if lookB d = true then .ok .none st else .err 2 st := by
  have bad : ∀ (k : Bool), (orT (notT (truF (lift1 (isiD "list") (eVar 0)))) (orT (notT (chT gLe gLe (eC (.int 1)) (callG gLen (aCons (eVar 0) aNil)) (eC (.int 60)))) (notT (truF (callG gAll (aCons (lstV lc_look_bars_2) aNil)))))) [.val d, .emp] st = .ok true st → fn_look_bars [d] st = .err 2 st := fun k h => fnB_err (ρ := [.val d, .emp]) (seqX (s_if1 h rfl))
  cases d with
  | list xs =>
    have t1 : notT (truF (lift1 (isiD "list") (eVar 0))) [.val (.list xs), .emp] st = .ok false st := rfl
    have t2 : (chT gLe gLe (eC (.int 1)) (callG gLen (aCons (eVar 0) aNil)) (eC (.int 60))) [.val (.list xs), .emp] st = .ok (decide (1 ≤ (xs.length : Int)) && decide ((xs.length : Int) ≤ 60)) st :=
      ev_ch (x := .int 1) (y := .int xs.length) (z := .int 60) (s1 := st) rfl (ev_callG (ds := [.list xs]) rfl rfl) rfl rfl rfl
    by_cases hl : 1 ≤ xs.length ∧ xs.length ≤ 60
    · have e2 : (decide (1 ≤ (xs.length : Int)) && decide ((xs.length : Int) ≤ 60)) = true := by simp; omega
      rw [e2] at t2
      have hb : ∀ x ∈ xs, barDom x = true := by
        simp only [lookDom, hl, and_self, decide_true, Bool.not_true, Bool.false_or, List.all_eq_true] at h
        exact h
      have t3 := ev_not (ev_truB (all_eq (look_lc2 (st := st) hb)))
      by_cases ha : xs.all barB = true
      · rw [ha] at t3
        have t := ev_or t1 (ev_or (ev_not t2) t3)
        match xs, hl, ha, t, hb with
        | x0 :: xs, hl, ha, t, hb =>
          have t4 := ev_not (ev_truB (all_eq (look_lc1 (st := st) (List.all_eq_true.mp ha))))
          have hv : lookB (.list (x0 :: xs)) = (x0 :: xs).all fun x => decide (lenB x = lenB x0) := by
            simp only [lookB, hl, ha, and_self, decide_true, Bool.true_and, List.headD_cons]
            rfl
          rw [hv]
          by_cases he : ((x0 :: xs).all fun x => decide (lenB x = lenB x0)) = true
          · rw [if_pos he]
            rw [he] at t4
            exact fnB_nx (ρ := [.val (.list (x0 :: xs)), .emp]) (seqE (s_if0 t rfl) (s_if0 t4 rfl))
          · rw [if_neg he]
            rw [Bool.not_eq_true] at he
            rw [he] at t4
            exact fnB_err (ρ := [.val (.list (x0 :: xs)), .emp]) (seqE (s_if0 t rfl) (s_if1 t4 rfl))
      · rw [Bool.not_eq_true] at ha
        rw [ha] at t3
        rw [show lookB (.list xs) = false by simp only [lookB, ha, Bool.false_and, Bool.and_false], if_neg (by simp)]
        exact bad true (ev_or t1 (ev_or (ev_not t2) t3))
    · have e2 : (decide (1 ≤ (xs.length : Int)) && decide ((xs.length : Int) ≤ 60)) = false := by
        rw [Bool.eq_false_iff]; intro q; simp at q; omega
      rw [e2] at t2
      rw [show lookB (.list xs) = false by simp only [lookB, hl, decide_false, Bool.false_and], if_neg (by simp)]
      exact bad true (ev_or t1 (ev_or1 (ev_not t2)))
  | dict => cases h
  | _ => rfl

/-! ### good bars -/
abbrev Step := Tup Int
abbrev Bar := Tup Step
abbrev toD {α : Type} [DecidableEq α] [Datum α] (a : α) : D := Datum.toD a
def GoodS (s : Step) : Prop := s.items.Pairwise (· < ·) ∧ ∀ m ∈ s.items, 0 ≤ m ∧ m ≤ 7
def GoodB (n : Nat) (b : Bar) : Prop := b.items.length = n ∧ ∀ s ∈ b.items, GoodS s
theorem up_len : ∀ {l : List Int} {lo : Int}, l.Pairwise (· < ·) → (∀ m ∈ l, lo ≤ m ∧ m ≤ 7) → (l.length : Int) ≤ max 0 (8 - lo)
  | [], _, _, _ => by simp; omega
  | x :: l, lo, h, h2 => by
    obtain ⟨h3, h4⟩ := List.pairwise_cons.mp h
    have hx := h2 x (by simp)
    have := up_len (lo := x + 1) h4 fun m hm => ⟨by have := h3 m hm; omega, (h2 m (List.mem_cons_of_mem _ hm)).2⟩
    rw [List.length_cons]
    omega
theorem GoodS.len {s : Step} (h : GoodS s) : s.items.length ≤ 8 := by
  have := up_len (lo := 0) h.1 h.2
  omega
theorem setU_up_id {l : List Int} (h : l.Pairwise (· < ·)) : setU ltI l = l :=
  (setU_of sto_int (h.imp fun {a b} h => by simpa [ltI] using h) fun _ => Iff.rfl).symm
theorem GoodS.stepB {s : Step} (h : GoodS s) : stepB (toD s) = true ∧ stepDom (toD s) = true := by
  have h1 : ((s.items.map PyData.int).all (isW 0 7)) = true := by
    rw [List.all_map, List.all_eq_true]
    intro m hm
    have := h.2 m hm
    simp [isW, this.1, this.2]
  have hl := h.len
  constructor
  · show (((s.items.map PyData.int).all (isW 0 7)) && (match isIntss (s.items.map PyData.int) with | some ns => decide (setU ltI ns = ns) | none => false)) = true
    rw [h1, isIntss_of]
    show (true && decide (setU ltI s.items = s.items)) = true
    rw [setU_up_id h.1]
    simp
  · show (decide ((s.items.map PyData.int).length ≤ 60) && (s.items.map PyData.int).all fun x => !isDc x) = true
    rw [List.length_map, List.all_map]
    simp only [Bool.and_eq_true, decide_eq_true_eq, List.all_eq_true]
    exact ⟨by omega, fun m _ => rfl⟩
theorem GoodB.barB {n : Nat} {b : Bar} (h : GoodB n b) (h1 : 1 ≤ n) (h2 : n ≤ 16) : barB (toD b) = true ∧ barDom (toD b) = true := by
  have hl : (b.items.map toD).length = n := by rw [List.length_map, h.1]
  constructor
  · show (decide (1 ≤ (b.items.map toD).length ∧ (b.items.map toD).length ≤ 16) && (b.items.map toD).all stepB) = true
    rw [hl, List.all_map, decide_eq_true ⟨h1, h2⟩, Bool.true_and, List.all_eq_true]
    exact fun s hs => (h.2 s hs).stepB.1
  · show (!decide (1 ≤ (b.items.map toD).length ∧ (b.items.map toD).length ≤ 16) || (b.items.map toD).all stepDom) = true
    rw [List.all_map, Bool.or_eq_true, List.all_eq_true]
    exact .inr fun s hs => (h.2 s hs).stepB.2
def GoodBs (n : Nat) (bs : List Bar) : Prop := ∀ b ∈ bs, GoodB n b
theorem look_good {n : Nat} {bs : List Bar} {st : Sto} (h : GoodBs n bs) (h1 : 1 ≤ n) (h2 : n ≤ 16) (h3 : 1 ≤ bs.length) (h4 : bs.length ≤ 60) : fn_look_bars [toD bs] st = .ok .none st := by
  have hl : (bs.map toD).length = bs.length := List.length_map _
  have d1 : lookDom (toD bs) = true := by
    show (!decide (1 ≤ (bs.map toD).length ∧ (bs.map toD).length ≤ 60) || (bs.map toD).all barDom) = true
    rw [List.all_map, Bool.or_eq_true, List.all_eq_true]
    exact .inr fun b hb => ((h b hb).barB h1 h2).2
  rw [look_bars_eq d1, if_pos]
  have hlen : ∀ b ∈ bs, lenB (toD b) = n := fun b hb => by
    show (b.items.map toD).length = n
    rw [List.length_map, (h b hb).1]
  show (decide (1 ≤ (bs.map toD).length ∧ (bs.map toD).length ≤ 60) && ((bs.map toD).all BF.barB && (bs.map toD).all fun x => decide (lenB x = lenB ((bs.map toD).headD .none)))) = true
  rw [hl, decide_eq_true ⟨h3, h4⟩, Bool.true_and, List.all_map, List.all_map]
  simp only [Bool.and_eq_true, List.all_eq_true, decide_eq_true_eq]
  refine ⟨fun b hb => ((h b hb).barB h1 h2).1, fun b hb => ?_⟩
  match bs, hb, hlen with
  | b0 :: bs, hb, hlen =>
    show decide (lenB (toD b) = lenB (toD b0)) = true
    rw [hlen b hb, hlen b0 (by simp)]
    simp
end BF

/-! BP3: plain: what the laws draw. -/
namespace BF
open PySem L2 PySem.W R

theorem draw_ok (ns : List Int) {n : Nat} {m : Int} (st : Sto) (hm : 0 < m) (hn : n < 16777216) : ∃ v : Int, 0 ≤ v ∧ v < m ∧ fn__law_draw [D.scr ns, D.ob 0, .int m] (tw n :: st) = .ok (.int v) (tw (n + 1) :: st) :=
  ⟨Q.drawV ns n m, Q.drawV_nonneg hm, Q.drawV_lt hm, Q.draw_eq hm hn⟩
theorem pick_ok (ns : List Int) {n : Nat} {ds : List D} (st : Sto) (hm : ds ≠ []) (hn : n < 16777216) : ∃ d ∈ ds, fn__law_pick [D.scr ns, D.ob 0, .list ds] (tw n :: st) = .ok d (tw (n + 1) :: st) := Q.pick_eq hm hn

section
variable {ns : List Int} {n size : Nat} {st : Sto}
theorem bar_pads (hn : n + 9 < 16777216) {a b c e f : Slot} :
    ∃ (ps : List Int) (m : Nat), ps.length ≤ 8 ∧ (∀ p ∈ ps, 0 ≤ p ∧ p ≤ 7) ∧ n ≤ m ∧ m ≤ n + 9 ∧ lc__law_bar_1 [.val (D.scr ns), .val (D.ob 0), a, b, c, e, f] (tw n :: st) = .ok (ps.map .int) (tw m :: st) := by
  obtain ⟨d, hd, hp⟩ := pick_ok ns (n := n) (ds := [.int 0, .int 0, .int 0, .int 1, .int 1, .int 2, .int 8]) st (by simp) (by omega)
  obtain ⟨j, hj, rfl⟩ : ∃ j : Nat, j ≤ 8 ∧ d = .int j := by
    simp only [List.mem_cons, List.not_mem_nil, or_false] at hd
    rcases hd with rfl | rfl | rfl | rfl | rfl | rfl | rfl
    · exact ⟨0, by decide, rfl⟩
    · exact ⟨0, by decide, rfl⟩
    · exact ⟨0, by decide, rfl⟩
    · exact ⟨1, by decide, rfl⟩
    · exact ⟨1, by decide, rfl⟩
    · exact ⟨2, by decide, rfl⟩
    · exact ⟨8, by decide, rfl⟩
  have hr : rng1 (callF 3 fn__law_pick (aCons (eVar 0) (aCons (eVar 1) (aCons (lstV (chk (aCons (eC (.int 0)) (aCons (eC (.int 0)) (aCons (eC (.int 0)) (aCons (eC (.int 1)) (aCons (eC (.int 1)) (aCons (eC (.int 2)) (aCons (eC (.int 8)) aNil))))))))) aNil)))) [.val (D.scr ns), .val (D.ob 0), a, b, c, e, f] (tw n :: st)
      = .ok ((List.range j).map fun i => PyData.int (i : Nat)) (tw (n + 1) :: st) := by
    have := ev_rng1 (ρ := [.val (D.scr ns), .val (D.ob 0), a, b, c, e, f]) (st := tw n :: st) (s1 := tw (n + 1) :: st) (j := (j : Int)) (f := callF 3 fn__law_pick (aCons (eVar 0) (aCons (eVar 1) (aCons (lstV (chk (aCons (eC (.int 0)) (aCons (eC (.int 0)) (aCons (eC (.int 0)) (aCons (eC (.int 1)) (aCons (eC (.int 1)) (aCons (eC (.int 2)) (aCons (eC (.int 8)) aNil))))))))) aNil)))) (ev_call (ds := [D.scr ns, D.ob 0, .list [.int 0, .int 0, .int 0, .int 1, .int 1, .int 2, .int 8]]) (s1 := tw n :: st) rfl hp) (by omega)
    simpa using this
  obtain ⟨acc, st', he, ps, rfl, hl, hb, rfl⟩ := lc_st (te := el__law_bar_1) (tg := .nm 6) (vs := [6]) (ρ := [.val (D.scr ns), .val (D.ob 0), a, b, c, e, f]) (fun i : Nat => PyData.int (i : Nat)) (List.range j)
    (fun i acc st' => ∃ ps : List Int, acc = ps.map .int ∧ ps.length = i ∧ (∀ p ∈ ps, 0 ≤ p ∧ p ≤ 7) ∧ st' = tw (n + 1 + i) :: st) hr ⟨[], rfl, rfl, by simp, rfl⟩ fun i x hx acc st2 ⟨ps, h1, h2, h3, h4⟩ => by
      have hi : i < j := by have := (List.getElem?_eq_some_iff.mp hx).1; simpa using this
      subst h1 h4
      obtain ⟨v, v0, v1, hv⟩ := draw_ok ns (n := n + 1 + i) (m := 8) st (by decide) (by omega)
      refine ⟨_, .int v, tw (n + 1 + (i + 1)) :: st, rfl, hv, ps ++ [v], by simp, by simp [h2], fun p hp => ?_, rfl⟩
      rcases List.mem_append.mp hp with hp | hp
      · exact h3 p hp
      · rw [List.mem_singleton.mp hp]; omega
  rw [List.length_range] at hl he
  exact ⟨ps, n + 1 + j, by omega, hb, by omega, by omega, he⟩
theorem bar_ok (hn : n + 9 * size < 16777216) (hs : size ≤ 1000) : ∃ (b : Bar) (m : Nat), GoodB size b ∧ n ≤ m ∧ m ≤ n + 9 * size ∧ fn__law_bar [D.scr ns, D.ob 0, .int size] (tw n :: st) = .ok (toD b) (tw m :: st) := by
  obtain ⟨ρ', st', he, ss, m, a4, a5, a6, hρ, hl, hg, h1, h2, rfl⟩ := forS_nx (body := bd__law_bar_1) (t := .nm 4) (fi := rng1 (eVar 2)) (ρ := [.val (D.scr ns), .val (D.ob 0), .val (.int size), .own [], .emp, .emp, .emp]) (st := tw n :: st) (st1 := tw n :: st)
    (fun i : Nat => PyData.int (i : Nat)) (List.range size)
    (fun i ρ st' => ∃ (ss : List Step) (m : Nat) (a4 a5 a6 : Slot), ρ = [.val (D.scr ns), .val (D.ob 0), .val (.int size), .own (ss.map toD), a4, a5, a6] ∧ ss.length = i ∧ (∀ s ∈ ss, GoodS s) ∧ n ≤ m ∧ m ≤ n + 9 * i ∧ st' = tw m :: st)
    (by have := ev_rng1 (ρ := [.val (D.scr ns), .val (D.ob 0), .val (.int size), .own [], .emp, .emp, .emp]) (st := tw n :: st) (s1 := tw n :: st) (f := eVar 2) (j := (size : Int)) rfl (by omega); simpa using this)
    ⟨[], n, _, _, _, rfl, rfl, by simp, Nat.le_refl _, by omega, rfl⟩ fun i x hx ρ st2 ⟨ss, m, a4, a5, a6, h1, h2, h3, h4, h5, h6⟩ => by
      have hi : i < size := by have := (List.getElem?_eq_some_iff.mp hx).1; simpa using this
      subst h1 h6
      obtain ⟨ps, m2, hp1, hp2, hm1, hm2, hp⟩ := bar_pads (ns := ns) (n := m) (st := st) (a := .val (.int size)) (b := .own (ss.map toD)) (c := .val (.int (x : Nat))) (e := a5) (f := a6) (by omega)
      have hg : gSortSet (.list (ps.map .int)) = some ((setU ltI ps).map .int) := by
        simp only [gSortSet, isIntss_of]; rw [if_pos (by omega)]
      refine ⟨_, [.val (D.scr ns), .val (D.ob 0), .val (.int size), .own ((ss ++ [(⟨setU ltI ps⟩ : Step)]).map toD), .val (.int (x : Nat)), .val (.list (ps.map .int)), a6], tw m2 :: st, rfl, seqE (s_set (ρ' := [.val (D.scr ns), .val (D.ob 0), .val (.int size), .own (ss.map toD), .val (.int (x : Nat)), .val (.list (ps.map .int)), a6]) (ev_lstV hp)) ((s_app (ds := ss.map toD) (d := toD (⟨setU ltI ps⟩ : Step)) (s1 := tw m2 :: st) rfl ?_ (by simp; omega)).trans (by simp)), ss ++ [⟨setU ltI ps⟩], m2, _, _, _, rfl, by simp [h2], fun s hs => ?_, by omega, by omega, rfl⟩
      · refine ev_callG (ds := [.list ((setU ltI ps).map .int)]) (ev_one (ev_lstV ?_)) rfl
        show (EO.ok (PyData.list (ps.map .int)) (tw m2 :: st)).bnd (fun d st => .ofO (gSortSet d) st) = _
        rw [EO.bnd_ok, hg]; rfl
      · rcases List.mem_append.mp hs with hs | hs
        · exact h3 s hs
        · rw [List.mem_singleton.mp hs]
          exact ⟨(setU_up sto_int).imp fun {a b} h => by simpa [ltI] using h, fun p hp => by have := hp2 p (mem_setU.mp hp); omega⟩
  rw [List.length_range] at hl h2
  subst hρ
  refine ⟨⟨ss⟩, m, ⟨hl, hg⟩, h1, h2, fnB_rt (seqE (ρ' := [.val (D.scr ns), .val (D.ob 0), .val (.int size), .own [], .emp, .emp, .emp]) (st' := tw n :: st) rfl (seqE he (seqE (s_ice (ds := ss.map toD) (ρ' := [.val (D.scr ns), .val (D.ob 0), .val (.int size), .val (.list (ss.map toD)), a4, a5, a6]) rfl) (s_ret (ev_callG (ds := [.list (ss.map toD)]) rfl rfl)))))⟩
end
end BF

/-! BP4: plain: what is told, refused. -/
namespace BF
open PySem L2 PySem.W R
def toldF (one : Fn) : Fn := fnB 5 (seqS (asgS (.nm 2) (eC .none))
    (seqS (asgS (.nm 3) (eC .none))
    (seqS (keepS 6 4 2 (asgS (.nm 3) (callF 2 one (aCons (eVar 0) (aCons (eVar 1) aNil)))))
    (retS (iteF (liftT gIsN (eVar 2) (eC .none)) (tupV (aCons (eC (.str (PySem.Str.ofString "found"))) (aCons (eVar 3) aNil))) (callF 1 fn__law_refusal (aCons (eVar 2) aNil)))))))
def refNames : List String := ["heard", "number", "bars", "chain", "many", "text"]
abbrev refD (c : Nat) : D := .tuple [.str (PySem.Str.ofString "refused"), .str (PySem.Str.ofString (refNames.getD c ""))]
abbrev fndD (d : D) : D := .tuple [.str (PySem.Str.ofString "found"), d]
theorem refusal_eq (st : Sto) : ∀ c : Nat, c < 6 → fn__law_refusal [D.ex c] st = .ok (refD c) st
  | 0, _ => by kernel_rfl
  | 1, _ => by kernel_rfl
  | 2, _ => by kernel_rfl
  | 3, _ => by kernel_rfl
  | 4, _ => by kernel_rfl
  | 5, _ => by kernel_rfl
  | n + 6, h => absurd h (by omega)
theorem told_err {one : Fn} {k x : D} {c : Nat} {st st' : Sto} (hc : c < 6) (h : one [k, x] st = .err c st') : toldF one [k, x] st = .ok (refD c) st' := by
  refine fnB_rt (seqE (ρ' := [.val k, .val x, .val .none, .emp, .emp]) (st' := st) rfl (seqE (ρ' := [.val k, .val x, .val .none, .val .none, .emp]) (st' := st) rfl (seqE (ρ' := [.val k, .val x, .val (D.ex c), .val .none, .emp]) (st' := st') ?_ ?_)))
  · have e : asgS (.nm 3) (callF 2 one (aCons (eVar 0) (aCons (eVar 1) aNil))) [.val k, .val x, .val .none, .val .none, .emp] st = .err c [.val k, .val x, .val .none, .val .none, .emp] st' := by
      show SO.ofE (one [k, x] st) _ _ = _
      rw [h]; rfl
    unfold keepS
    rw [e]
    show (if c < 6 then _ else _) = _
    rw [if_pos hc]; rfl
  · exact s_ret (ev_ite (k := false) (s1 := st') (ev_liftT (x := D.ex c) (y := .none) (s1 := st') rfl rfl rfl) (by rw [if_neg (by simp)]; exact ev_call (ds := [D.ex c]) (s1 := st') rfl (refusal_eq st' c hc)))
theorem told_ok {one : Fn} {k x d : D} {st st' : Sto} (h : one [k, x] st = .ok d st') : toldF one [k, x] st = .ok (fndD d) st' := by
  refine fnB_rt (seqE (ρ' := [.val k, .val x, .val .none, .emp, .emp]) (st' := st) rfl (seqE (ρ' := [.val k, .val x, .val .none, .val .none, .emp]) (st' := st) rfl (seqE (ρ' := [.val k, .val x, .val .none, .val d, .emp]) (st' := st') ?_ ?_)))
  · have e : asgS (.nm 3) (callF 2 one (aCons (eVar 0) (aCons (eVar 1) aNil))) [.val k, .val x, .val .none, .val .none, .emp] st = .nx [.val k, .val x, .val .none, .val d, .emp] st' := by
      show SO.ofE (one [k, x] st) _ _ = _
      rw [h]; rfl
    unfold keepS
    rw [e]
  · exact s_ret (ev_ite (k := true) (s1 := st') rfl (by rw [if_pos rfl]; rfl))

theorem s_retE {f : EF} {ρ : Slots} {st s1 : Sto} {c : Nat} (h : f ρ st = .err c s1) : retS f ρ st = .err c ρ s1 := by unfold retS; rw [h]; rfl
theorem ev_iteE {t : TF} {f g : EF} {ρ : Slots} {st s1 : Sto} {k : Bool} {r : EO D} (h1 : t ρ st = .ok k s1) (h2 : (if k = true then f ρ s1 else g ρ s1) = r) : iteF t f g ρ st = r := ev_ite h1 h2
/-! ### numbers refused -/
theorem look_most_eq {d : D} {st : Sto} (h : isDc d = false) : fn_look_most [d] st = if isW 0 128 d = true then .ok .none st else .err 1 st := by
  have t : notT (truF (callF 3 fn_is_whole (aCons (eVar 0) (aCons (eC (.int 0)) (aCons (eC (.int 128)) aNil))))) [.val d] st = .ok (!isW 0 128 d) st :=
    ev_not (ev_truB (ev_call (ds := [d, .int 0, .int 128]) (s1 := st) rfl (is_whole_eq h)))
  by_cases hk : isW 0 128 d = true
  · rw [if_pos hk]
    rw [hk] at t
    exact fnB_nx (ρ := [.val d]) (s_if0 t rfl)
  · rw [if_neg hk]
    rw [Bool.not_eq_true] at hk
    rw [hk] at t
    exact fnB_err (ρ := [.val d]) (s_if1 t rfl)
/-- bars, then the number of slips: refused -/
theorem slips_bars {x y : D} {st : Sto} (h : lookDom x = true) (h2 : lookB x = false) : fn_meant [x, y] st = .err 2 st ∧ fn_fewest [x, y] st = .err 2 st ∧ fn_slips [x, y] st = .err 2 st := by
  have e : fn_look_bars [x] st = .err 2 st := by rw [look_bars_eq h, if_neg (by simp [h2])]
  exact ⟨fnB_err (seqX (s_dropE (ev_callE (ds := [x]) (s1 := st) rfl e))), fnB_err (seqX (s_dropE (ev_callE (ds := [x]) (s1 := st) rfl e))), fnB_err (seqX (s_dropE (ev_callE (ds := [x]) (s1 := st) rfl e)))⟩
theorem slips_number {x y : D} {st : Sto} (e : fn_look_bars [x] st = .ok .none st) (h : isDc y = false) (h2 : isW 0 128 y = false) : fn_meant [x, y] st = .err 1 st ∧ fn_fewest [x, y] st = .err 1 st ∧ fn_slips [x, y] st = .err 1 st := by
  have e2 : fn_look_most [y] st = .err 1 st := by rw [look_most_eq h, if_neg (by simp [h2])]
  exact ⟨fnB_err (seqE (s_drop (ev_call (ds := [x]) (s1 := st) rfl e)) (seqX (s_dropE (ev_callE (ds := [y]) (s1 := st) rfl e2)))),
    fnB_err (seqE (s_drop (ev_call (ds := [x]) (s1 := st) rfl e)) (seqX (s_dropE (ev_callE (ds := [y]) (s1 := st) rfl e2)))),
    fnB_err (seqE (s_drop (ev_call (ds := [x]) (s1 := st) rfl e)) (seqX (s_dropE (ev_callE (ds := [y]) (s1 := st) rfl e2))))⟩

/-! ### when bars can't be -/
theorem lookDom_l {xs : List D} (h : ∀ x ∈ xs, barDom x = true) : lookDom (.list xs) = true := by
  unfold lookDom
  rw [Bool.or_eq_true]
  exact .inr (List.all_eq_true.mpr h)
theorem barDom_t {xs : List D} (h : ∀ x ∈ xs, stepDom x = true) : barDom (.tuple xs) = true := by
  unfold barDom
  rw [Bool.or_eq_true]
  exact .inr (List.all_eq_true.mpr h)
theorem lookB_bad {xs : List D} {x : D} (hx : x ∈ xs) (h : barB x = false) : lookB (.list xs) = false := by
  have : xs.all barB = false := by
    rw [Bool.eq_false_iff]
    intro q
    rw [List.all_eq_true.mp q x hx] at h
    cases h
  simp only [lookB, this, Bool.false_and, Bool.and_false]
theorem lookB_len {xs : List D} {x : D} (hx : x ∈ xs) (h : lenB x ≠ lenB (xs.headD .none)) : lookB (.list xs) = false := by
  have : (xs.all fun x => decide (lenB x = lenB (xs.headD .none))) = false := by
    rw [Bool.eq_false_iff]
    intro q
    exact h (of_decide_eq_true (List.all_eq_true.mp q x hx))
  simp only [lookB, this, Bool.and_false]
theorem barB_bad {xs : List D} {x : D} (hx : x ∈ xs) (h : stepB x = false) : barB (.tuple xs) = false := by
  have : xs.all stepB = false := by
    rw [Bool.eq_false_iff]
    intro q
    rw [List.all_eq_true.mp q x hx] at h
    cases h
  simp only [barB, this, Bool.and_false]
end BF

/-! BP5: plain: the grid. -/
namespace BF
open PySem L2 PySem.W R

/-! ### least, greatest -/
section
variable {α : Type} [DecidableEq α] [DatumOrd α] [Lay α]
theorem alikeB_map (xs : List α) : alikeB (xs.map Datum.toD) = true := by
  unfold alikeB
  rw [List.all_map, List.all_eq_true]
  intro x hx
  show (!isNo (Datum.toD x) && (xs.map Datum.toD).all fun e => PySem.W.alike (Datum.toD x) e) = true
  rw [List.all_map, Bool.and_eq_true, List.all_eq_true]
  refine ⟨?_, fun y _ => DatumOrd.alike x y⟩
  have := DatumOrd.notNone x
  cases h : (Datum.toD x : PyData) with
  | none => exact absurd h this
  | _ => rfl
theorem fine_map (xs : List α) : fine (xs.map Datum.toD) = true := by
  unfold fine
  rw [layAll, alikeB_map, Bool.true_and, Bool.and_true, decide_eq_true_eq]
  exact Nat.le_trans (depthAll_map xs) (Lay.small (α := α))
theorem gMin_map (x : α) (xs : List α) : gMin [.list ((x :: xs).map Datum.toD)] = some (Datum.toD (minOf x xs)) := by
  rw [List.map_cons]
  have := fine_map (x :: xs)
  rw [List.map_cons] at this
  simp only [gMin, this, if_true]
  rw [minD_map]
theorem gMax_map (x : α) (xs : List α) : gMax [.list ((x :: xs).map Datum.toD)] = some (Datum.toD (maxOf x xs)) := by
  rw [List.map_cons]
  have := fine_map (x :: xs)
  rw [List.map_cons] at this
  simp only [gMax, this, if_true]
  rw [maxD_map]
end
section
variable {α : Type} [DecidableEq α] [DatumOrd α]
/-- the order is a strict one of all -/
abbrev Str3 (α : Type) [DecidableEq α] [DatumOrd α] : Prop := STO (DatumOrd.lt (α := α))
theorem sto_i : Str3 Int := ⟨fun a => by show decide (a < a) = false; simp, fun a b c => by show decide (a < b) = true → decide (b < c) = true → decide (a < c) = true; simp only [decide_eq_true_eq]; omega, fun a b => by show decide (a < b) = true ∨ _ ∨ decide (b < a) = true; simp only [decide_eq_true_eq]; omega⟩
theorem sto_pair {β : Type} [DecidableEq β] [DatumOrd β] (ha : Str3 α) (hb : Str3 β) : Str3 (α × β) := by
  have df : ∀ p q : α × β, DatumOrd.lt p q = if p.1 = q.1 then DatumOrd.lt p.2 q.2 else DatumOrd.lt p.1 q.1 := fun _ _ => rfl
  refine ⟨fun p => by rw [df, if_pos rfl]; exact hb.irr _, fun p q r h1 h2 => ?_, fun p q => ?_⟩
  · rw [df] at h1 h2 ⊢
    by_cases e1 : p.1 = q.1
    · rw [if_pos e1] at h1
      by_cases e2 : q.1 = r.1
      · rw [if_pos e2] at h2
        rw [if_pos (e1.trans e2)]
        exact hb.tr _ _ _ h1 h2
      · rw [if_neg e2] at h2
        rw [if_neg (by rw [e1]; exact e2), e1]
        exact h2
    · rw [if_neg e1] at h1
      by_cases e2 : q.1 = r.1
      · rw [if_neg (by rw [← e2]; exact e1), ← e2]
        exact h1
      · rw [if_neg e2] at h2
        have h3 := ha.tr _ _ _ h1 h2
        rw [if_neg (fun e => by rw [e, ha.irr] at h3; cases h3)]
        exact h3
  · rw [df, df]
    by_cases e : p.1 = q.1
    · rw [if_pos e, if_pos e.symm]
      rcases hb.tri p.2 q.2 with h | h | h
      · exact .inl h
      · exact .inr (.inl (Prod.ext e h))
      · exact .inr (.inr h)
    · rw [if_neg e, if_neg (Ne.symm e)]
      rcases ha.tri p.1 q.1 with h | h | h
      · exact .inl h
      · exact absurd h e
      · exact .inr (.inr h)
theorem minOf_cons (x y : α) (ys : List α) : minOf x (y :: ys) = minOf (if DatumOrd.lt y x = true then y else x) ys := rfl
/-- the least is one of them, none is less -/
theorem minOf_spec (o : Str3 α) : ∀ (xs : List α) (x : α), minOf x xs ∈ x :: xs ∧ ∀ y ∈ x :: xs, DatumOrd.lt y (minOf x xs) = false
  | [], x => ⟨by simp [minOf], fun y hy => by rw [List.mem_singleton.mp hy]; exact o.irr x⟩
  | z :: xs, x => by
    rw [minOf_cons]
    obtain ⟨h1, h2⟩ := minOf_spec o xs (if DatumOrd.lt z x = true then z else x)
    constructor
    · rcases List.mem_cons.mp h1 with h | h
      · rw [h]
        split <;> simp
      · exact List.mem_cons_of_mem _ (List.mem_cons_of_mem _ h)
    · have h0 := h2 _ List.mem_cons_self
      have key : ∀ y, (y = x ∨ y = z) → DatumOrd.lt y (minOf (if DatumOrd.lt z x = true then z else x) xs) = false := fun y hy => by
        rw [Bool.eq_false_iff]
        intro q
        by_cases hz : DatumOrd.lt z x = true
        · rw [if_pos hz] at h0 q
          rcases hy with rfl | rfl
          · rw [o.tr _ _ _ hz q] at h0; cases h0
          · rw [q] at h0; cases h0
        · rw [if_neg hz] at h0 q
          rcases hy with rfl | rfl
          · rw [q] at h0; cases h0
          · rcases o.tri y x with h | h | h
            · exact hz h
            · rw [h] at q; rw [q] at h0; cases h0
            · rw [o.tr _ _ _ h q] at h0; cases h0
      intro y hy
      rcases List.mem_cons.mp hy with rfl | hy
      · exact key _ (.inl rfl)
      · rcases List.mem_cons.mp hy with rfl | hy
        · exact key _ (.inr rfl)
        · exact h2 y (List.mem_cons_of_mem _ hy)
theorem minOf_eq (o : Str3 α) {x m : α} {xs : List α} (hm : m ∈ x :: xs) (h : ∀ y ∈ x :: xs, DatumOrd.lt y m = false) : minOf x xs = m := by
  obtain ⟨h1, h2⟩ := minOf_spec o xs x
  rcases o.tri (minOf x xs) m with q | q | q
  · rw [h _ h1] at q; cases q
  · exact q
  · rw [h2 _ hm] at q; cases q
end
theorem pair_lt {p q : Int × Int} : DatumOrd.lt p q = true ↔ p.1 < q.1 ∨ (p.1 = q.1 ∧ p.2 < q.2) := by
  show (if p.1 = q.1 then decide (p.2 < q.2) else decide (p.1 < q.1)) = true ↔ _
  split
  · rename_i h; simp only [decide_eq_true_eq]; omega
  · rename_i h; simp only [decide_eq_true_eq]; omega

/-! ### ticks -/
def tickI (U S k : Int) : Int := k * U + (if k % 2 = 1 then S else 0)
theorem i_mul {x y : Int} (h : -(2 ^ 64) < y ∧ y < 2 ^ 64) : gMul (.int x) (.int y) = some (.int (x * y)) := by
  show (if _ then _ else _) = _
  rw [if_pos (by simp only [Bool.or_eq_true, Bool.and_eq_true, decide_eq_true_eq]; exact .inr h)]
theorem tick_of_eq {U S k : Int} {st : Sto} (hU : -(2 ^ 64) < U ∧ U < 2 ^ 64) : fn_tick_of [.int U, .int S, .int k] st = .ok (.int (tickI U S k)) st := by
  refine fnB_rt (s_ret (ev_lift2 (x := .int (k * U)) (y := .int (if k % 2 = 1 then S else 0)) (s1 := st) (ev_lift2 (x := .int k) (y := .int U) (s1 := st) rfl rfl (i_mul hU)) ?_ rfl))
  refine ev_ite (k := decide (k % 2 = 1)) (s1 := st) (ev_liftT (x := .int (k % 2)) (y := .int 1) (s1 := st) (ev_lift2 (x := .int k) (y := .int 2) (s1 := st) rfl rfl rfl) rfl (gEq_toD (α := Int) _ _)) ?_
  by_cases h : k % 2 = 1
  · rw [if_pos (by simpa using h), if_pos h]; rfl
  · rw [if_neg (by simpa using h), if_neg h]; rfl
def absI (i : Int) : Int := if i < 0 then -i else i
def lowI (U t : Int) : Int := if t / U - 2 > 0 then t / U - 2 else 0
def nearRow (U S t : Int) (k : Int) : Int × Int := (absI (t - tickI U S k), k)
def stepN (U S t : Int) : Int := (minOf (nearRow U S t (lowI U t)) [nearRow U S t (lowI U t + 1), nearRow U S t (lowI U t + 2), nearRow U S t (lowI U t + 3), nearRow U S t (lowI U t + 4)]).2
theorem step_near_eq {U S t : Int} {st : Sto} (hU : 0 < U ∧ U < 1073741824) (ht : -100000000 ≤ t / U ∧ t / U < 900000) : fn_step_near [.int U, .int S, .int t] st = .ok (.int (stepN U S t)) st := by
  have l0 : 0 ≤ lowI U t := by unfold lowI; split <;> omega
  have l1 : lowI U t ≤ 900000 := by unfold lowI; split <;> omega
  generalize hl : lowI U t = l at l0 l1
  refine fnB_rt (seqE (s_set (d := .int l) (s1 := st) (ρ' := [.val (.int U), .val (.int S), .val (.int t), .val (.int l), .emp, .emp]) ?_) (seqE (s_set (d := .list ([nearRow U S t l, nearRow U S t (l + 1), nearRow U S t (l + 2), nearRow U S t (l + 3), nearRow U S t (l + 4)].map Datum.toD)) (s1 := st) (ρ' := [.val (.int U), .val (.int S), .val (.int t), .val (.int l), .val (.list ([nearRow U S t l, nearRow U S t (l + 1), nearRow U S t (l + 2), nearRow U S t (l + 3), nearRow U S t (l + 4)].map Datum.toD)), .emp]) (ev_lstV ?_)) (s_ret ?_)))
  · refine ev_callG (ds := [.int 0, .int (t / U - 2)]) (ev_two (s1 := st) rfl (ev_lift2 (x := .int (t / U)) (y := .int 2) (s1 := st) (ev_lift2 (x := .int t) (y := .int U) (s1 := st) rfl rfl ?_) rfl rfl)) ?_
    · show (if 0 < U ∧ U < 1073741824 then some (PyData.int (t / U)) else none) = _
      rw [if_pos hU]
    · rw [← hl]; rfl
  · have hr : rng2 (eVar 3) (lift2 gAdd (eVar 3) (eC (.int 5))) [.val (.int U), .val (.int S), .val (.int t), .val (.int l), .emp, .emp] st = .ok ([l, l + 1, l + 2, l + 3, l + 4].map PyData.int) st := by
      show (if _ then EO.ok ((List.range ((l + 5) - l).toNat).map fun m => PyData.int (l + (m : Nat))) st else EO.bad) = _
      rw [if_pos (by omega), show ((l + 5) - l).toNat = 5 by omega]
      simp [List.range_succ]
    exact lc_all (fi := rng2 (eVar 3) (lift2 gAdd (eVar 3) (eC (.int 5)))) (tg := .nm 5) (vs := [5]) (te := el_step_near_1) (ρ := [.val (.int U), .val (.int S), .val (.int t), .val (.int l), .emp, .emp]) (st := st) (st' := st) PyData.int [l, l + 1, l + 2, l + 3, l + 4] (fun k => Datum.toD (nearRow U S t k)) hr fun k hk =>
      ⟨_, rfl, ev_tupV (ev_two (s1 := st) (ev_callG (ds := [.int (t - tickI U S k)]) (ev_one (ev_lift2 (x := .int t) (y := .int (tickI U S k)) (s1 := st) rfl (ev_call (ds := [.int U, .int S, .int k]) (s1 := st) rfl (tick_of_eq (by omega))) rfl)) rfl) rfl)⟩
  · refine ev_lift2 (x := Datum.toD (minOf (nearRow U S t l) [nearRow U S t (l + 1), nearRow U S t (l + 2), nearRow U S t (l + 3), nearRow U S t (l + 4)])) (y := .int 1) (s1 := st) (ev_callG (ds := [.list ([nearRow U S t l, nearRow U S t (l + 1), nearRow U S t (l + 2), nearRow U S t (l + 3), nearRow U S t (l + 4)].map Datum.toD)]) rfl (gMin_map _ _)) rfl ?_
    unfold stepN
    rw [hl]
    rfl
end BF

/-! BP6: plain: the nearest step. -/
namespace BF
open PySem L2 PySem.W R

theorem stepN_eq {U S t k : Int} (h1 : lowI U t ≤ k) (h2 : k ≤ lowI U t + 4) (h : ∀ j, lowI U t ≤ j → j ≠ k → absI (t - tickI U S k) < absI (t - tickI U S j) ∨ (absI (t - tickI U S k) = absI (t - tickI U S j) ∧ k < j)) : stepN U S t = k := by
  unfold stepN
  generalize lowI U t = l at h1 h2 h
  have hm : nearRow U S t k ∈ [nearRow U S t l, nearRow U S t (l + 1), nearRow U S t (l + 2), nearRow U S t (l + 3), nearRow U S t (l + 4)] := by
    have : k = l ∨ k = l + 1 ∨ k = l + 2 ∨ k = l + 3 ∨ k = l + 4 := by omega
    rcases this with rfl | rfl | rfl | rfl | rfl <;> simp
  rw [minOf_eq (sto_pair sto_i sto_i) hm]
  · rfl
  · intro y hy
    obtain ⟨j, hj, rfl⟩ : ∃ j, l ≤ j ∧ y = nearRow U S t j := by
      simp only [List.mem_cons, List.not_mem_nil, or_false] at hy
      rcases hy with rfl | rfl | rfl | rfl | rfl
      · exact ⟨l, by omega, rfl⟩
      · exact ⟨l + 1, by omega, rfl⟩
      · exact ⟨l + 2, by omega, rfl⟩
      · exact ⟨l + 3, by omega, rfl⟩
      · exact ⟨l + 4, by omega, rfl⟩
    rw [Bool.eq_false_iff]
    intro q
    rw [pair_lt] at q
    by_cases e : j = k
    · subst e; omega
    · have h3 := h j hj e
      simp only [nearRow] at q
      omega
theorem tick_next (U S k : Int) : tickI U S (k + 1) = tickI U S k + (if k % 2 = 1 then U - S else U + S) := by
  unfold tickI
  rw [Int.add_mul, Int.one_mul]
  by_cases h : k % 2 = 1
  · rw [if_neg (by omega), if_pos h, if_pos h]; omega
  · rw [if_pos (by omega), if_neg h, if_neg h]; omega
theorem tick_mono {U S : Int} (h0 : 0 ≤ S) (h1 : S < U) (k : Int) : ∀ n : Nat, tickI U S k + n ≤ tickI U S (k + n)
  | 0 => by simp
  | n + 1 => by
    have ih := tick_mono h0 h1 k n
    have := tick_next U S (k + n)
    rw [show k + ((n + 1 : Nat) : Int) = k + n + 1 by omega, this]
    split <;> omega
theorem tick_lt {U S : Int} (h0 : 0 ≤ S) (h1 : S < U) {j k : Int} (h : j < k) : tickI U S j < tickI U S k := by
  have := tick_mono h0 h1 j (k - j).toNat
  rw [show j + ((k - j).toNat : Int) = k by omega] at this
  omega
theorem tick_le {U S : Int} (h0 : 0 ≤ S) (h1 : S < U) {j k : Int} (h : j ≤ k) : tickI U S j ≤ tickI U S k := by
  rcases Int.lt_or_eq_of_le h with h | h
  · exact Int.le_of_lt (tick_lt h0 h1 h)
  · rw [h]; exact Int.le_refl _
/-- moved by off, the step stays the nearest, the least of the nearest -/
def NearOk (U S k off : Int) : Prop := (0 ≤ off ∧ 2 * off ≤ tickI U S (k + 1) - tickI U S k) ∨ (off < 0 ∧ 0 < k ∧ 2 * (-off) < tickI U S k - tickI U S (k - 1))
theorem near_cmp {U S k off : Int} (h0 : 0 ≤ S) (h1 : S < U) (h : NearOk U S k off) (j : Int) (hne : j ≠ k) : absI off < absI (tickI U S k + off - tickI U S j) ∨ (absI off = absI (tickI U S k + off - tickI U S j) ∧ k < j) := by
  have hn := tick_next U S k
  have hp := tick_next U S (k - 1)
  rw [show k - 1 + 1 = k by omega] at hp
  unfold NearOk at h
  rcases Int.lt_or_gt_of_ne hne with hlt | hgt
  · have := tick_le h0 h1 (show j ≤ k - 1 by omega)
    left
    unfold absI
    split <;> split <;> split at hp <;> omega
  · have := tick_le h0 h1 (show k + 1 ≤ j by omega)
    unfold absI
    split <;> split <;> split at hn <;> omega
theorem near_step {U S k off : Int} (h0 : 0 ≤ S) (h1 : S < U) (hk : 0 ≤ k) (h : NearOk U S k off) : stepN U S (tickI U S k + off) = k := by
  have hn := tick_next U S k
  have hp := tick_next U S (k - 1)
  rw [show k - 1 + 1 = k by omega] at hp
  have lo : (k - 1) * U ≤ tickI U S k + off := by
    unfold NearOk at h
    unfold tickI at h hn hp ⊢
    have e1 : (k - 1) * U = k * U - U := by rw [Int.sub_mul, Int.one_mul]
    rcases h with h | h
    · split at * <;> omega
    · split at * <;> split at * <;> omega
  have hi : tickI U S k + off < (k + 1) * U := by
    unfold NearOk at h
    unfold tickI at h hn hp ⊢
    have e1 : (k + 1) * U = k * U + U := by rw [Int.add_mul, Int.one_mul]
    rcases h with h | h
    · split at * <;> split at * <;> omega
    · split at * <;> omega
  have d1 : k - 1 ≤ (tickI U S k + off) / U := (Int.le_ediv_iff_mul_le (by omega)).mpr lo
  have d2 : (tickI U S k + off) / U < k + 1 := Int.ediv_lt_of_lt_mul (by omega) hi
  have l1 : lowI U (tickI U S k + off) ≤ k := by unfold lowI; split <;> omega
  have l2 : k ≤ lowI U (tickI U S k + off) + 4 := by unfold lowI; split <;> omega
  refine stepN_eq l1 l2 fun j hj hne => ?_
  have e : tickI U S k + off - tickI U S k = off := by omega
  rw [e]
  exact near_cmp h0 h1 h j hne
end BF

/-! BP7: plain: what the grid's defs tell. -/
namespace BF
open PySem L2 PySem.W R

abbrev Stroke := Int × Int
abbrev Row3 := T3 Int Int Int
instance : Lay Row3 := ⟨fun _ => rfl, by decide⟩
instance : Lay (List Row3) := ⟨fun xs => by show PyData.canLayAll0 _ = true; exact layAll xs, by decide⟩
instance : Lay ((Int × Int) × Int) := ⟨fun _ => rfl, by decide⟩
def laidRow (U S : Int) (p : Stroke) : Row3 := ⟨stepN U S p.1, p.2, p.1 - tickI U S (stepN U S p.1)⟩
def laidT (U S : Int) (heard : List Stroke) : List Row3 := heard.map (laidRow U S)
/-- ticks that may stand -/
def TickOk (t : Int) : Prop := 0 ≤ t ∧ t ≤ 100000
theorem tick_div {U t : Int} (hU : 2 ≤ U) (ht : TickOk t) : -100000000 ≤ t / U ∧ t / U < 900000 := by
  obtain ⟨h0, h1⟩ := ht
  have a := Int.ediv_nonneg h0 (show 0 ≤ U by omega)
  have b := Int.ediv_le_self U h0
  omega
theorem map_getI {α β : Type} (l : List α) (f : α → β) {i : Nat} {x : α} (h : l[i]? = some x) : (l.take (i + 1)).map f = (l.take i).map f ++ [f x] := by
  rw [List.take_add_one, h]; simp
theorem laid_on_eq {U S : Int} {heard : List Stroke} {st : Sto} (hU : 2 ≤ U ∧ U ≤ 100) (hl : heard.length ≤ 10000) (ht : ∀ p ∈ heard, TickOk p.1) : fn_laid_on [toD heard, .int U, .int S] st = .ok (toD (laidT U S heard)) st := by
  obtain ⟨ρ', st', he, a4, a5, a6, hρ, rfl⟩ := forS_nx (fi := walk (eVar 0)) (t := .tp [4, 5]) (body := bd_laid_on_1) (ρ := [.val (toD heard), .val (.int U), .val (.int S), .own [], .emp, .emp, .emp]) (st := st) (st1 := st) (Datum.toD (α := Stroke)) heard
    (fun i ρ st' => ∃ a4 a5 a6 : Slot, ρ = [.val (toD heard), .val (.int U), .val (.int S), .own (((heard.take i).map (laidRow U S)).map Datum.toD), a4, a5, a6] ∧ st' = st) (ev_walk (x := toD heard) (s1 := st) rfl rfl) ⟨_, _, _, rfl, rfl⟩ fun i p hp ρ st2 ⟨a4, a5, a6, h1, h2⟩ => by
      subst h1 h2
      have hi := (List.getElem?_eq_some_iff.mp hp).1
      have hm : p ∈ heard := List.mem_of_getElem? hp
      have e := step_near_eq (U := U) (S := S) (t := p.1) (st := st2) (by omega) (tick_div hU.1 (ht p hm))
      refine ⟨_, [.val (toD heard), .val (.int U), .val (.int S), .own (((heard.take (i + 1)).map (laidRow U S)).map Datum.toD), .val (.int p.1), .val (.int p.2), .val (.int (stepN U S p.1))], st2, rfl, seqE (s_set (d := .int (stepN U S p.1)) (s1 := st2) (ρ' := [.val (toD heard), .val (.int U), .val (.int S), .own (((heard.take i).map (laidRow U S)).map Datum.toD), .val (.int p.1), .val (.int p.2), .val (.int (stepN U S p.1))]) (ev_call (ds := [.int U, .int S, .int p.1]) (s1 := st2) rfl e)) ?_, _, _, _, rfl, rfl⟩
      refine (s_app (ds := ((heard.take i).map (laidRow U S)).map Datum.toD) (d := Datum.toD (laidRow U S p)) (s1 := st2) rfl ?_ (by simp; omega)).trans ?_
      · exact ev_tupV (ev_cons (d := .int (stepN U S p.1)) (s1 := st2) rfl (ev_two (d := .int p.2) (s1 := st2) rfl (ev_lift2 (x := .int p.1) (y := .int (tickI U S (stepN U S p.1))) (s1 := st2) rfl (ev_call (ds := [.int U, .int S, .int (stepN U S p.1)]) (s1 := st2) rfl (tick_of_eq (by omega))) rfl)))
      · rw [map_getI _ _ hp, List.map_append]; rfl
  rw [List.take_length] at hρ
  subst hρ
  exact fnB_rt (seqE (ρ' := [.val (toD heard), .val (.int U), .val (.int S), .own [], .emp, .emp, .emp]) (st' := st') rfl (seqE he (seqE (s_ice (ρ' := [.val (toD heard), .val (.int U), .val (.int S), .val (.list ((heard.map (laidRow U S)).map Datum.toD)), a4, a5, a6]) rfl) (s_ret rfl))))

/-! ### how far off -/
def late (U S : Int) (p : Stroke) : Int := absI (p.1 - tickI U S (stepN U S p.1))
def maxL : List Int → Int
  | [] => 0
  | x :: xs => maxOf x xs
def offsT (U S : Int) (heard : List Stroke) : Int × Int := ((heard.map (late U S)).sum, maxL (heard.map (late U S)))
theorem gMax_ints {ns : List Int} (h : ns ≠ []) : gMax [.list (ns.map .int)] = some (.int (maxL ns)) := by
  cases ns with
  | nil => exact absurd rfl h
  | cons n ns => exact gMax_map (α := Int) n ns
theorem offs_eq {U S : Int} {heard : List Stroke} {st : Sto} (hU : 2 ≤ U ∧ U ≤ 100) (h0 : heard ≠ []) (hl : heard.length ≤ 10000) (ht : ∀ p ∈ heard, TickOk p.1) : fn_offs [toD heard, .int U, .int S] st = .ok (toD (offsT U S heard)) st := by
  have h1 : lc_offs_1 [.val (toD heard), .val (.int U), .val (.int S), .emp, .emp] st = .ok ((heard.map (late U S)).map .int) st := by
    have := lc_all (fi := walk (callF 3 fn_laid_on (aCons (eVar 0) (aCons (eVar 1) (aCons (eVar 2) aNil))))) (tg := .nm 4) (vs := [4]) (te := el_offs_1) (ρ := [.val (toD heard), .val (.int U), .val (.int S), .emp, .emp]) (st := st) (st' := st) (fun p : Stroke => Datum.toD (laidRow U S p)) heard (fun p => .int (late U S p))
      (ev_walk (x := toD (laidT U S heard)) (s1 := st) (ev_call (ds := [toD heard, .int U, .int S]) (s1 := st) rfl (laid_on_eq hU hl ht)) (by show some ((heard.map (laidRow U S)).map Datum.toD) = _; rw [List.map_map]; rfl)) fun p _ =>
      ⟨_, rfl, ev_callG (ds := [.int (p.1 - tickI U S (stepN U S p.1))]) (ev_one (ev_lift2 (x := Datum.toD (laidRow U S p)) (y := .int 2) (s1 := st) rfl rfl rfl)) rfl⟩
    rw [List.map_map]
    exact this
  refine fnB_rt (seqE (s_set (ρ' := [.val (toD heard), .val (.int U), .val (.int S), .val (.list ((heard.map (late U S)).map .int)), .emp]) (ev_lstV h1)) (s_ret (ev_tupV (ev_two (d := .int (heard.map (late U S)).sum) (s1 := st) (ev_callG (ds := [.list ((heard.map (late U S)).map .int)]) rfl ?_) (ev_callG (ds := [.list ((heard.map (late U S)).map .int)]) rfl (gMax_ints ?_))))))
  · simp only [gSum, isIntss_of, Option.map_some]
  · simpa using h0

/-! ### swings -/
def swRow (U : Int) (heard : List Stroke) (s : Nat) : (Int × Int) × Int := (offsT U s heard, s)
def swingT (U : Int) (heard : List Stroke) : (Int × Int) × Int := minOf (swRow U heard 0) ((List.range (U.toNat - 1)).map fun i => swRow U heard (i + 1))
theorem range_split {n : Nat} (h : 0 < n) : List.range n = 0 :: (List.range (n - 1)).map (· + 1) := by
  obtain ⟨m, rfl⟩ : ∃ m, n = m + 1 := ⟨n - 1, by omega⟩
  rw [List.range_succ_eq_map]
  rfl
theorem swing_of_eq {U : Int} {heard : List Stroke} {st : Sto} (hU : 2 ≤ U ∧ U ≤ 100) (h0 : heard ≠ []) (hl : heard.length ≤ 10000) (ht : ∀ p ∈ heard, TickOk p.1) : fn_swing_of [toD heard, .int U] st = .ok (toD (swingT U heard)) st := by
  have h1 : lc_swing_of_1 [.val (toD heard), .val (.int U), .emp, .emp] st = .ok ((List.range U.toNat).map fun s => toD (swRow U heard s)) st :=
    lc_all (fi := rng1 (eVar 1)) (tg := .nm 3) (vs := [3]) (te := el_swing_of_1) (ρ := [.val (toD heard), .val (.int U), .emp, .emp]) (st := st) (st' := st) (fun s : Nat => PyData.int (s : Int)) (List.range U.toNat) (fun s => toD (swRow U heard s)) (ev_rng1 (f := eVar 1) (j := U) (s1 := st) rfl (by omega)) fun s _ =>
      ⟨_, rfl, ev_tupV (ev_two (s1 := st) (ev_call (ds := [toD heard, .int U, .int (s : Int)]) (s1 := st) rfl (offs_eq hU h0 hl ht)) rfl)⟩
  have e : ((List.range U.toNat).map fun s => toD (swRow U heard s)) = ((swRow U heard 0) :: ((List.range (U.toNat - 1)).map fun i => swRow U heard (i + 1))).map Datum.toD := by
    rw [range_split (by omega)]
    simp
  rw [e] at h1
  exact fnB_rt (seqE (s_set (ρ' := [.val (toD heard), .val (.int U), .val (.list (((swRow U heard 0) :: ((List.range (U.toNat - 1)).map fun i => swRow U heard (i + 1))).map Datum.toD)), .emp]) (ev_lstV h1)) (s_ret (ev_callG (ds := [.list (((swRow U heard 0) :: ((List.range (U.toNat - 1)).map fun i => swRow U heard (i + 1))).map Datum.toD)]) rfl (gMin_map _ _))))
end BF

/-! BP8: plain: strokes looked at. -/
namespace BF
open PySem L2 PySem.W R

def lexP (p q : Stroke) : Prop := p.1 < q.1 ∨ (p.1 = q.1 ∧ p.2 < q.2)
structure GoodH (heard : List Stroke) : Prop where
  some : 1 ≤ heard.length
  few : heard.length ≤ 60
  ok : ∀ p ∈ heard, TickOk p.1 ∧ 0 ≤ p.2 ∧ p.2 ≤ 7
  up : heard.Pairwise lexP
theorem GoodH.ne {heard : List Stroke} (h : GoodH heard) : heard ≠ [] := by
  intro e
  have := h.some
  rw [e] at this
  simp at this
theorem is_stroke_good {p : Stroke} {st : Sto} (h : TickOk p.1 ∧ 0 ≤ p.2 ∧ p.2 ≤ 7) : fn_is_stroke [toD p] st = .ok (.bool true) st := by
  obtain ⟨⟨h1, h2⟩, h3, h4⟩ := h
  have a1 : callF 3 fn_is_whole (aCons (lift2 gIdx (eVar 0) (eC (.int 0))) (aCons (eC (.int 0)) (aCons (eC (.int 100000)) aNil))) [.val (toD p)] st = .ok (.bool true) st := by
    refine ev_call (ds := [.int p.1, .int 0, .int 100000]) (s1 := st) (ev_cons (s1 := st) (ev_lift2 (x := toD p) (y := .int 0) (s1 := st) rfl rfl rfl) rfl) ?_
    rw [is_whole_eq rfl]
    simp [isW, h1, h2]
  have a2 : callF 3 fn_is_whole (aCons (lift2 gIdx (eVar 0) (eC (.int 1))) (aCons (eC (.int 0)) (aCons (eC (.int 7)) aNil))) [.val (toD p)] st = .ok (.bool true) st := by
    refine ev_call (ds := [.int p.2, .int 0, .int 7]) (s1 := st) (ev_cons (s1 := st) (ev_lift2 (x := toD p) (y := .int 1) (s1 := st) rfl rfl rfl) rfl) ?_
    rw [is_whole_eq rfl]
    simp [isW, h3, h4]
  exact fnB_rt (seqE (ρ' := [.val (toD p)]) (st' := st) rfl (s_ret (ev_tv (ev_and (ev_bV a1) (ev_bV a2)))))
theorem gIdx_at {α : Type} [DecidableEq α] [Datum α] {l : List α} {i : Nat} {x : α} (h : l[i]? = some x) : gIdx (.list (l.map Datum.toD)) (.int (i : Int)) = some (Datum.toD x) := by
  have hi := (List.getElem?_eq_some_iff.mp h).1
  show atI (l.map Datum.toD) (i : Int) = _
  rw [atI_nat (by omega) (by rw [List.length_map]; omega), Int.toNat_natCast, List.getElem?_map, h]
  rfl
theorem look_heard_good {heard : List Stroke} {st : Sto} (h : GoodH heard) : fn_look_heard [toD heard] st = .ok .none st := by
  have t2 : (chT gLe gLe (eC (.int 1)) (callG gLen (aCons (eVar 0) aNil)) (eC (.int 60))) [.val (toD heard), .emp, .emp] st = .ok true st := by
    have hl : (heard.map (Datum.toD (α := Stroke))).length = heard.length := List.length_map _
    have := ev_ch (g1 := gLe) (g2 := gLe) (f := eC (.int 1)) (g := callG gLen (aCons (eVar 0) aNil)) (h := eC (.int 60)) (ρ := [.val (toD heard), .emp, .emp]) (st := st) (s1 := st) (s2 := st) (x := .int 1) (y := .int heard.length) (z := .int 60) (k := decide (1 ≤ (heard.length : Int))) (k2 := decide ((heard.length : Int) ≤ 60)) rfl (ev_callG (ds := [toD heard]) rfl (by show some (PyData.int ((heard.map (Datum.toD (α := Stroke))).length : Int)) = _; rw [hl])) rfl rfl rfl
    rw [this]
    have h1 := h.some
    have h2 := h.few
    rw [decide_eq_true (by omega), decide_eq_true (by omega)]
    rfl
  have l2 : lc_look_heard_2 [.val (toD heard), .emp, .emp] st = .ok (heard.map fun p => .bool ((fun _ : Stroke => true) p)) st :=
    lc_all (fi := walk (eVar 0)) (tg := .nm 2) (vs := [2]) (te := el_look_heard_2) (ρ := [.val (toD heard), .emp, .emp]) (st := st) (st' := st) (Datum.toD (α := Stroke)) heard (fun _ => .bool true) (ev_walk (x := toD heard) (s1 := st) rfl rfl) fun p hp =>
      ⟨_, rfl, ev_call (ds := [toD p]) (s1 := st) rfl (is_stroke_good (h.ok p hp))⟩
  have l1 : lc_look_heard_1 [.val (toD heard), .emp, .emp] st = .ok ((List.range (heard.length - 1)).map fun p => .bool ((fun _ : Nat => true) p)) st := by
    have hl : (heard.map (Datum.toD (α := Stroke))).length = heard.length := List.length_map _
    have h2 := h.few
    have h1 := h.some
    have hr : rng1 (lift2 gSub (callG gLen (aCons (eVar 0) aNil)) (eC (.int 1))) [.val (toD heard), .emp, .emp] st = .ok ((List.range (heard.length - 1)).map fun i => PyData.int (i : Nat)) st := by
      have := ev_rng1 (f := lift2 gSub (callG gLen (aCons (eVar 0) aNil)) (eC (.int 1))) (ρ := [.val (toD heard), .emp, .emp]) (st := st) (s1 := st) (j := (heard.length : Int) - 1) (ev_lift2 (x := .int heard.length) (y := .int 1) (s1 := st) (ev_callG (ds := [toD heard]) rfl (by show some (PyData.int ((heard.map (Datum.toD (α := Stroke))).length : Int)) = _; rw [hl])) rfl rfl) (by omega)
      rw [this, show ((heard.length : Int) - 1).toNat = heard.length - 1 by omega]
    exact lc_all (tg := .nm 1) (vs := [1]) (te := el_look_heard_1) (ρ := [.val (toD heard), .emp, .emp]) (st := st) (st' := st) (fun i : Nat => PyData.int (i : Nat)) (List.range (heard.length - 1)) (fun _ => .bool true) hr fun i hi => by
      have hi' := List.mem_range.mp hi
      have g1 : heard[i]? = some heard[i] := List.getElem?_eq_getElem (by omega)
      have g2 : heard[i + 1]? = some heard[i + 1] := List.getElem?_eq_getElem (by omega)
      have hlt := (List.pairwise_iff_getElem.mp h.up) i (i + 1) (by omega) (by omega) (by omega)
      refine ⟨_, rfl, ev_tv (ev_liftT (x := toD heard[i]) (y := toD heard[i + 1]) (s1 := st) (s2 := st) (ev_lift2 (x := toD heard) (y := .int (i : Int)) (s1 := st) rfl rfl (gIdx_at g1)) (ev_lift2 (x := toD heard) (y := .int ((i + 1 : Nat) : Int)) (s1 := st) rfl (ev_lift2 (x := .int (i : Int)) (y := .int 1) (s1 := st) rfl rfl rfl) (gIdx_at g2)) ?_)⟩
      show some (HT.lexLt [heard[i].1, heard[i].2] [heard[i + 1].1, heard[i + 1].2]) = some true
      rw [HT.lexLt_cons, HT.lexLt_cons]
      rcases hlt with q | ⟨q1, q2⟩
      · rw [if_neg (by omega), decide_eq_true q]
      · rw [if_pos q1, if_neg (by omega), decide_eq_true q2]
  refine fnB_nx (ρ := [.val (toD heard), .emp, .emp]) (seqE (st' := st) (s_if0 (s1 := st) (ev_or (s1 := st) rfl (ev_or (ev_not t2) ?_)) rfl) (s_if0 (s1 := st) ?_ rfl))
  · have := ev_not (ev_truB (all_eq l2))
    rw [List.all_eq_true.mpr (fun _ _ => rfl)] at this
    exact this
  · have := ev_not (ev_truB (all_eq l1))
    rw [List.all_eq_true.mpr (fun _ _ => rfl)] at this
    exact this

/-! ### units, swings -/
theorem look_unit_eq {d : D} {st : Sto} (h : isDc d = false) : fn_look_unit [d] st = if isW 2 100 d = true then .ok .none st else .err 1 st := by
  have t : notT (truF (callF 3 fn_is_whole (aCons (eVar 0) (aCons (eC (.int 2)) (aCons (eC (.int 100)) aNil))))) [.val d] st = .ok (!isW 2 100 d) st :=
    ev_not (ev_truB (ev_call (ds := [d, .int 2, .int 100]) (s1 := st) rfl (is_whole_eq h)))
  by_cases hk : isW 2 100 d = true
  · rw [if_pos hk]
    rw [hk] at t
    exact fnB_nx (ρ := [.val d]) (s_if0 t rfl)
  · rw [if_neg hk]
    rw [Bool.not_eq_true] at hk
    rw [hk] at t
    exact fnB_err (ρ := [.val d]) (s_if1 t rfl)
theorem look_unit_good {U : Int} {st : Sto} (hU : 2 ≤ U ∧ U ≤ 100) : fn_look_unit [.int U] st = .ok .none st := by
  rw [look_unit_eq rfl, if_pos (by simp [isW, hU.1, hU.2])]
theorem look_grid_good {U S : Int} {st : Sto} (hU : 2 ≤ U ∧ U ≤ 100) (hS : 0 ≤ S ∧ S < U) : fn_look_grid [.int U, .int S] st = .ok .none st := by
  have t : notT (truF (callF 3 fn_is_whole (aCons (eVar 1) (aCons (eC (.int 0)) (aCons (lift2 gSub (eVar 0) (eC (.int 1))) aNil))))) [.val (.int U), .val (.int S)] st = .ok false st := by
    have := ev_not (ev_truB (ev_call (n := 3) (fn := fn_is_whole) (r := aCons (eVar 1) (aCons (eC (.int 0)) (aCons (lift2 gSub (eVar 0) (eC (.int 1))) aNil))) (ρ := [.val (.int U), .val (.int S)]) (st := st) (ds := [.int S, .int 0, .int (U - 1)]) (s1 := st) rfl (is_whole_eq rfl)))
    rw [show isW 0 (U - 1) (.int S) = true by simp [isW, hS.1]; omega] at this
    exact this
  exact fnB_nx (ρ := [.val (.int U), .val (.int S)]) (seqE (s_drop (ev_call (ds := [.int U]) (s1 := st) rfl (look_unit_good hU))) (s_if0 t rfl))

theorem GoodH.tick {heard : List Stroke} (h : GoodH heard) : ∀ p ∈ heard, TickOk p.1 := fun p hp => (h.ok p hp).1
theorem laid_eq {U S : Int} {heard : List Stroke} {st : Sto} (hU : 2 ≤ U ∧ U ≤ 100) (hS : 0 ≤ S ∧ S < U) (h : GoodH heard) : fn_laid [toD heard, .int U, .int S] st = .ok (toD (laidT U S heard)) st :=
  fnB_rt (seqE (s_drop (ev_call (ds := [toD heard]) (s1 := st) rfl (look_heard_good h))) (seqE (s_drop (ev_call (ds := [.int U, .int S]) (s1 := st) rfl (look_grid_good hU hS))) (s_ret (ev_call (ds := [toD heard, .int U, .int S]) (s1 := st) rfl (laid_on_eq hU (by have := h.few; omega) h.tick)))))
theorem best_swing_eq {U : Int} {heard : List Stroke} {st : Sto} (hU : 2 ≤ U ∧ U ≤ 100) (h : GoodH heard) : fn_best_swing [toD heard, .int U] st = .ok (.tuple [.int (swingT U heard).2, .int (swingT U heard).1.1, .int (swingT U heard).1.2]) st := by
  refine fnB_rt (seqE (s_drop (ev_call (ds := [toD heard]) (s1 := st) rfl (look_heard_good h))) (seqE (s_drop (ev_call (ds := [.int U]) (s1 := st) rfl (look_unit_good hU))) (seqE (ρ' := [.val (toD heard), .val (.int U), .val (toD (swingT U heard).1), .val (.int (swingT U heard).2)]) (st' := st) ?_ (s_ret (ev_lift2 (x := .tuple [.int (swingT U heard).2]) (y := toD (swingT U heard).1) (s1 := st) rfl rfl rfl)))))
  unfold asgS
  rw [ev_call (ds := [toD heard, .int U]) (s1 := st) rfl (swing_of_eq hU h.ne (by have := h.few; omega) h.tick)]
  rfl
end BF

/-! BP9: plain: all units that fit. -/
namespace BF
open PySem L2 PySem.W R
def swOk (u : Int) (heard : List Stroke) (slip : Int) : List Nat := (List.range u.toNat).filter fun s => decide ((offsT u s heard).2 ≤ slip)
def unitRow (heard : List Stroke) (slip u : Int) : List (Int × Int) := match swOk u heard slip with
  | [] => []
  | s :: r => [(u, (minOf (swRow u heard s) (r.map (swRow u heard))).2)]
def unitsT (heard : List Stroke) (lo hi slip : Int) : List (Int × Int) := (List.range (hi + 1 - lo).toNat).flatMap fun i => unitRow heard slip (lo + (i : Nat))
theorem unitRow_len (heard : List Stroke) (slip u : Int) : (unitRow heard slip u).length ≤ 1 := by
  unfold unitRow
  split <;> simp
theorem gTru_l (xs : List D) : gTru (.list xs) = some (!xs.isEmpty) := rfl
theorem unit_body {heard : List Stroke} {lo hi slip u : Int} {st : Sto} {acc : List D} {a6 a7 a8 : Slot} (h : GoodH heard) (hu : 2 ≤ u ∧ u ≤ 100) (hl : acc.length ≤ 1000) :
    ∃ b6 b7 b8 : Slot, bd_units_1 [.val (toD heard), .val (.int lo), .val (.int hi), .val (.int slip), .own acc, .val (.int u), a6, a7, a8] st
      = .nx [.val (toD heard), .val (.int lo), .val (.int hi), .val (.int slip), .own (acc ++ (unitRow heard slip u).map Datum.toD), .val (.int u), b6, b7, b8] st := by
  have hw := h.few
  have l2 : lc_units_2 [.val (toD heard), .val (.int lo), .val (.int hi), .val (.int slip), .own acc, .val (.int u), a6, a7, a8] st = .ok ((swOk u heard slip).map fun s : Nat => PyData.int (s : Int)) st :=
    lc_ok (fi := rng1 (eVar 5)) (tg := .nm 8) (vs := [8]) (tt := if_units_1) (te := eVar 8) (ρ := [.val (toD heard), .val (.int lo), .val (.int hi), .val (.int slip), .own acc, .val (.int u), a6, a7, a8]) (st := st) (st' := st) (fun s : Nat => PyData.int (s : Int)) (List.range u.toNat) (fun s => decide ((offsT u s heard).2 ≤ slip)) (fun s => PyData.int (s : Int)) (ev_rng1 (f := eVar 5) (j := u) (s1 := st) rfl (by omega)) fun s _ =>
      ⟨_, rfl, ev_liftT (x := .int (offsT u s heard).2) (y := .int slip) (s1 := st) (s2 := st) (ev_lift2 (x := toD (offsT u s heard)) (y := .int 1) (s1 := st) (ev_call (ds := [toD heard, .int u, .int (s : Int)]) (s1 := st) rfl (offs_eq hu h.ne (by omega) h.tick)) rfl rfl) rfl rfl, fun _ => rfl⟩
  have l1 : lc_units_1 [.val (toD heard), .val (.int lo), .val (.int hi), .val (.int slip), .own acc, .val (.int u), .val (.list ((swOk u heard slip).map fun s : Nat => PyData.int (s : Int))), a7, a8] st = .ok ((swOk u heard slip).map fun s => toD (swRow u heard s)) st :=
    lc_all (fi := walk (eVar 6)) (tg := .nm 8) (vs := [8]) (te := el_units_1) (ρ := [.val (toD heard), .val (.int lo), .val (.int hi), .val (.int slip), .own acc, .val (.int u), .val (.list ((swOk u heard slip).map fun s : Nat => PyData.int (s : Int))), a7, a8]) (st := st) (st' := st) (fun s : Nat => PyData.int (s : Int)) (swOk u heard slip) (fun s => toD (swRow u heard s)) (ev_walk (x := .list ((swOk u heard slip).map fun s : Nat => PyData.int (s : Int))) (s1 := st) rfl rfl) fun s _ =>
      ⟨_, rfl, ev_tupV (ev_two (s1 := st) (ev_call (ds := [toD heard, .int u, .int (s : Int)]) (s1 := st) rfl (offs_eq hu h.ne (by omega) h.tick)) rfl)⟩
  refine ⟨.val (.list ((swOk u heard slip).map fun s : Nat => PyData.int (s : Int))), .val (.list ((swOk u heard slip).map fun s => toD (swRow u heard s))), a8, ?_⟩
  refine seqE (s_set (ρ' := [.val (toD heard), .val (.int lo), .val (.int hi), .val (.int slip), .own acc, .val (.int u), .val (.list ((swOk u heard slip).map fun s : Nat => PyData.int (s : Int))), a7, a8]) (ev_lstV l2)) (seqE (s_set (ρ' := [.val (toD heard), .val (.int lo), .val (.int hi), .val (.int slip), .own acc, .val (.int u), .val (.list ((swOk u heard slip).map fun s : Nat => PyData.int (s : Int))), .val (.list ((swOk u heard slip).map fun s => toD (swRow u heard s))), a8]) (ev_lstV l1)) ?_)
  have hlen := unitRow_len heard slip u
  refine (s_ext (ds := acc) (es := (unitRow heard slip u).map Datum.toD) (s1 := st) rfl ?_ (by rw [List.length_map]; omega)).trans rfl
  unfold unitRow
  cases hs : swOk u heard slip with
  | nil => exact ev_ite (k := false) (s1 := st) (ev_tru (x := .list []) (s1 := st) (by simp [eVar]) rfl) rfl
  | cons s r =>
    refine ev_ite (k := true) (s1 := st) (ev_tru (x := .list ((s :: r).map fun s => toD (swRow u heard s))) (s1 := st) (by simp [eVar]) rfl) ?_
    rw [if_pos rfl]
    refine ev_lstV (ev_chk (ev_one (ev_tupV (ev_two (d := .int u) (s1 := st) rfl (ev_lift2 (x := toD (minOf (swRow u heard s) (r.map (swRow u heard)))) (y := .int 1) (s1 := st) (ev_callG (ds := [.list ((swRow u heard s :: r.map (swRow u heard)).map Datum.toD)]) (ev_one ?_) (gMin_map _ _)) rfl rfl)))))
    simp [eVar]
theorem units_eq {heard : List Stroke} {lo hi slip : Int} {st : Sto} (h : GoodH heard) (hlo : 2 ≤ lo ∧ lo ≤ 100) (hhi : 2 ≤ hi ∧ hi ≤ 100) (hle : lo ≤ hi ∧ hi - lo ≤ 20) (hs : 0 ≤ slip ∧ slip ≤ 100) : fn_units [toD heard, .int lo, .int hi, .int slip] st = .ok (toD (unitsT heard lo hi slip)) st := by
  have hn : (hi + 1 - lo).toNat ≤ 21 := by omega
  obtain ⟨ρ', st', he, a5, a6, a7, a8, hρ, rfl⟩ := forS_nx (fi := rng2 (eVar 1) (lift2 gAdd (eVar 2) (eC (.int 1)))) (t := .nm 5) (body := bd_units_1) (ρ := [.val (toD heard), .val (.int lo), .val (.int hi), .val (.int slip), .own [], .emp, .emp, .emp, .emp]) (st := st) (st1 := st) (fun i : Nat => PyData.int (lo + (i : Nat))) (List.range (hi + 1 - lo).toNat)
    (fun i ρ st' => ∃ a5 a6 a7 a8 : Slot, ρ = [.val (toD heard), .val (.int lo), .val (.int hi), .val (.int slip), .own (((List.range i).flatMap fun i => unitRow heard slip (lo + (i : Nat))).map Datum.toD), a5, a6, a7, a8] ∧ st' = st)
    (by
      show (if _ then EO.ok ((List.range ((hi + 1) - lo).toNat).map fun m => PyData.int (lo + (m : Nat))) st else EO.bad) = _
      rw [if_pos (by omega)]) ⟨_, _, _, _, rfl, rfl⟩ fun i x hx ρ st2 ⟨a5, a6, a7, a8, h1, h2⟩ => by
      have hi' : i < (hi + 1 - lo).toNat := by have := (List.getElem?_eq_some_iff.mp hx).1; simpa using this
      have hxi : x = i := by
        obtain ⟨q1, q2⟩ := List.getElem?_eq_some_iff.mp hx
        simpa using q2.symm
      subst h1 h2 hxi
      have hlen : (((List.range x).flatMap fun i => unitRow heard slip (lo + (i : Nat))).map (Datum.toD (α := Int × Int))).length ≤ 1000 := by
        rw [List.length_map]
        have : ∀ n, ((List.range n).flatMap fun i => unitRow heard slip (lo + (i : Nat))).length ≤ n := fun n => by
          induction n with
          | zero => simp
          | succ n ih =>
            rw [List.range_succ, List.flatMap_append, List.length_append]
            have := unitRow_len heard slip (lo + (n : Nat))
            simp only [List.flatMap_cons, List.flatMap_nil, List.append_nil]
            omega
        have := this x
        omega
      obtain ⟨b6, b7, b8, hb⟩ := unit_body (lo := lo) (hi := hi) (slip := slip) (u := lo + (x : Nat)) (st := st2) (a6 := a6) (a7 := a7) (a8 := a8) h (by omega) hlen
      refine ⟨_, _, st2, rfl, hb, .val (.int (lo + (x : Nat))), b6, b7, b8, ?_, rfl⟩
      rw [List.range_succ, List.flatMap_append, List.map_append]
      simp
  rw [List.length_range] at hρ
  subst hρ
  have c1 : notT (truF (callF 3 fn_is_whole (aCons (eVar 3) (aCons (eC (.int 0)) (aCons (eC (.int 100)) aNil))))) [.val (toD heard), .val (.int lo), .val (.int hi), .val (.int slip), .emp, .emp, .emp, .emp, .emp] st' = .ok false st' := by
    have := ev_not (ev_truB (ev_call (n := 3) (fn := fn_is_whole) (r := aCons (eVar 3) (aCons (eC (.int 0)) (aCons (eC (.int 100)) aNil))) (ρ := [.val (toD heard), .val (.int lo), .val (.int hi), .val (.int slip), .emp, .emp, .emp, .emp, .emp]) (st := st') (ds := [.int slip, .int 0, .int 100]) (s1 := st') rfl (is_whole_eq rfl)))
    rw [show isW 0 100 (.int slip) = true by simp [isW, hs.1, hs.2]] at this
    exact this
  have c2 : (liftT gLt (eVar 2) (eVar 1)) [.val (toD heard), .val (.int lo), .val (.int hi), .val (.int slip), .emp, .emp, .emp, .emp, .emp] st' = .ok false st' :=
    ev_liftT (x := .int hi) (y := .int lo) (s1 := st') rfl rfl (by show some (decide (hi < lo)) = _; rw [decide_eq_false (by omega)])
  have c3 : (liftT gGt (lift2 gSub (eVar 2) (eVar 1)) (eC (.int 20))) [.val (toD heard), .val (.int lo), .val (.int hi), .val (.int slip), .emp, .emp, .emp, .emp, .emp] st' = .ok false st' :=
    ev_liftT (x := .int (hi - lo)) (y := .int 20) (s1 := st') (ev_lift2 (x := .int hi) (y := .int lo) (s1 := st') rfl rfl rfl) rfl (by show some (decide (20 < hi - lo)) = _; rw [decide_eq_false (by omega)])
  exact fnB_rt (seqE (s_drop (ev_call (ds := [toD heard]) (s1 := st') rfl (look_heard_good h))) (seqE (s_drop (ev_call (ds := [.int lo]) (s1 := st') rfl (look_unit_good hlo))) (seqE (s_drop (ev_call (ds := [.int hi]) (s1 := st') rfl (look_unit_good hhi)))
    (seqE (s_if0 (ev_or c2 (ev_or c3 c1)) rfl) (seqE (ρ' := [.val (toD heard), .val (.int lo), .val (.int hi), .val (.int slip), .own [], .emp, .emp, .emp, .emp]) (st' := st') rfl (seqE he (seqE (s_ice (ρ' := [.val (toD heard), .val (.int lo), .val (.int hi), .val (.int slip), .val (toD (unitsT heard lo hi slip)), a5, a6, a7, a8]) rfl) (s_ret rfl))))))))
end BF

/-! BP10: plain: strokes drawn. -/
namespace BF
open PySem L2 PySem.W R
def stOf (l : List Int) : Stroke := (l.getD 0 0, l.getD 1 0)
theorem lex_lexP {p q : Stroke} (h : HT.lexLt [p.1, p.2] [q.1, q.2] = true) : lexP p q := by
  rw [HT.lexLt_cons, HT.lexLt_cons] at h
  unfold lexP
  by_cases e : p.1 = q.1
  · rw [if_pos e] at h
    by_cases e2 : p.2 = q.2
    · rw [if_pos e2] at h; cases h
    · rw [if_neg e2, decide_eq_true_eq] at h; exact .inr ⟨e, h⟩
  · rw [if_neg e, decide_eq_true_eq] at h; exact .inl h
/-- sorted(set(strokes)) -/
theorem sset_strokes {ps : List Stroke} (h0 : ps ≠ []) (hl : ps.length ≤ 60) (hb : ∀ p ∈ ps, TickOk p.1 ∧ 0 ≤ p.2 ∧ p.2 ≤ 7) : ∃ heard : List Stroke, gSortSet (.list (ps.map toD)) = some (heard.map toD) ∧ GoodH heard ∧ (∀ p, p ∈ heard ↔ p ∈ ps) ∧ heard.length ≤ ps.length := by
  obtain ⟨ts, hts⟩ : ∃ ts : List (List Int), ts = ps.map fun p => [p.1, p.2] := ⟨_, rfl⟩
  have e1 : ps.map toD = ts.map tupD := by rw [hts, List.map_map]; rfl
  have two : ∀ l ∈ setU HT.lexLt ts, ∃ p ∈ ps, l = [p.1, p.2] := fun l hl => by
    have := mem_setU.mp hl
    rw [hts] at this
    obtain ⟨p, hp, e⟩ := List.mem_map.mp this
    exact ⟨p, hp, e.symm⟩
  have mem : ∀ p, p ∈ (setU HT.lexLt ts).map stOf ↔ p ∈ ps := fun p => by
    constructor
    · intro h
      obtain ⟨l, hl, rfl⟩ := List.mem_map.mp h
      obtain ⟨q, hq, rfl⟩ := two l hl
      exact hq
    · intro h
      refine List.mem_map.mpr ⟨[p.1, p.2], mem_setU.mpr ?_, rfl⟩
      rw [hts]
      exact List.mem_map.mpr ⟨p, h, rfl⟩
  have hlen : (setU HT.lexLt ts).length ≤ ps.length := by
    have := @setU_len _ _ HT.lexLt ts
    rw [hts, List.length_map] at this
    rw [hts]; exact this
  refine ⟨(setU HT.lexLt ts).map stOf, ?_, ⟨?_, ?_, fun p hp => hb p ((mem p).mp hp), ?_⟩, mem, by rw [List.length_map]; exact hlen⟩
  · rw [e1]
    have hn : isIntss (ts.map tupD) = none := by
      rw [hts]
      cases ps with
      | nil => exact absurd rfl h0
      | cons p r => rfl
    have hbd : bdOk ts = true := by
      unfold bdOk
      rw [List.all_eq_true]
      intro t ht
      have h1 : ∀ t ∈ ts, ∃ p ∈ ps, t = [p.1, p.2] := fun t ht => by
        rw [hts] at ht
        obtain ⟨p, hp, e⟩ := List.mem_map.mp ht
        exact ⟨p, hp, e.symm⟩
      obtain ⟨p, hp, rfl⟩ := h1 t ht
      have hh : (ts.headD []).length = 2 := by
        rw [hts]
        cases ps with
        | nil => exact absurd rfl h0
        | cons p r => rfl
      obtain ⟨⟨q1, _⟩, q2, _⟩ := hb p hp
      rw [hh]
      simp [q1, q2]
    simp only [gSortSet, hn, tupIs_of]
    rw [if_pos (by rw [hbd, Bool.and_true, decide_eq_true_eq, hts, List.length_map]; omega), List.map_map]
    refine congrArg some (List.map_congr_left fun l hl => ?_)
    obtain ⟨p, _, rfl⟩ := two l hl
    rfl
  · rw [List.length_map]
    cases ps with
    | nil => exact absurd rfl h0
    | cons p r =>
      have : [p.1, p.2] ∈ setU HT.lexLt ts := mem_setU.mpr (by rw [hts]; simp)
      exact List.length_pos_of_mem this
  · rw [List.length_map]; omega
  · rw [List.pairwise_map]
    refine (setU_up sto_lex).imp_of_mem fun {a b} ha hb' h => ?_
    obtain ⟨p, _, rfl⟩ := two a ha
    obtain ⟨q, _, rfl⟩ := two b hb'
    exact lex_lexP h
theorem heard_ok {ns : List Int} {n : Nat} {most : Int} (h0 : 1 ≤ most) (h1 : most ≤ 60) (hn : n + 500 < 16777216) : ∃ (heard : List Stroke) (m : Nat), GoodH heard ∧ (∀ p ∈ heard, p.1 ≤ 4000) ∧ heard.length ≤ most.toNat ∧ n ≤ m ∧ m ≤ n + 300 ∧ fn__law_heard [D.scr ns, D.ob 0, .int most] [tw n] = .ok (toD heard) [tw m] := by
  obtain ⟨d, hd, hp⟩ := pick_ok ns (n := n) (ds := [.int 1, .int 7, .int 24, .int 100]) [] (by simp) (by omega)
  obtain ⟨u, u0, u1, rfl⟩ : ∃ u : Int, 1 ≤ u ∧ u ≤ 100 ∧ d = .int u := by
    simp only [List.mem_cons, List.not_mem_nil, or_false] at hd
    rcases hd with rfl | rfl | rfl | rfl
    · exact ⟨1, by decide, by decide, rfl⟩
    · exact ⟨7, by decide, by decide, rfl⟩
    · exact ⟨24, by decide, by decide, rfl⟩
    · exact ⟨100, by decide, by decide, rfl⟩
  obtain ⟨v, v0, v1, hv⟩ := draw_ok ns (n := n + 1) (m := most) [] (by omega) (by omega)
  obtain ⟨c, hc⟩ : ∃ c : Nat, 1 + v = (c : Int) := ⟨(1 + v).toNat, by omega⟩
  have hr : rng1 (lift2 gAdd (eC (.int 1)) (callF 3 fn__law_draw (aCons (eVar 0) (aCons (eVar 1) (aCons (eVar 2) aNil))))) [.val (D.scr ns), .val (D.ob 0), .val (.int most), .own [], .val (.int u), .emp, .emp] [tw (n + 1)] = .ok ((List.range c).map fun i => PyData.int (i : Nat)) [tw (n + 2)] := by
    have := ev_rng1 (f := lift2 gAdd (eC (.int 1)) (callF 3 fn__law_draw (aCons (eVar 0) (aCons (eVar 1) (aCons (eVar 2) aNil))))) (ρ := [.val (D.scr ns), .val (D.ob 0), .val (.int most), .own [], .val (.int u), .emp, .emp]) (st := [tw (n + 1)]) (s1 := [tw (n + 2)]) (j := (c : Int)) (ev_lift2 (x := .int 1) (y := .int v) (s1 := [tw (n + 1)]) rfl (ev_call (ds := [D.scr ns, D.ob 0, .int most]) (s1 := [tw (n + 1)]) rfl hv) (by show some (PyData.int (1 + v)) = _; rw [hc])) (by omega)
    simpa using this
  obtain ⟨ρ', st', he, ps, a5, a6, g1, g2, g3, g4⟩ := forS_nx (t := .nm 5) (body := bd__law_heard_1) (fun i : Nat => PyData.int (i : Nat)) (List.range c)
    (fun i ρ st' => ∃ (ps : List Stroke) (a5 a6 : Slot), ps.length = i ∧ (∀ p ∈ ps, TickOk p.1 ∧ (0 ≤ p.2 ∧ p.2 ≤ 7) ∧ p.1 ≤ 4000) ∧ ρ = [.val (D.scr ns), .val (D.ob 0), .val (.int most), .own (ps.map toD), .val (.int u), a5, a6] ∧ st' = [tw (n + 2 + 4 * i)]) hr ⟨[], _, _, rfl, by simp, rfl, rfl⟩ fun i x hx ρ st2 ⟨ps, a5, a6, g1, g2, g3, g4⟩ => by
      have hi : i < c := by have := (List.getElem?_eq_some_iff.mp hx).1; simpa using this
      subst g3 g4
      obtain ⟨a, b0, b1, ha⟩ := draw_ok ns (n := n + 2 + 4 * i) (m := 40) [] (by decide) (by omega)
      obtain ⟨d, hd, hpk⟩ := pick_ok ns (n := n + 2 + 4 * i + 1) (ds := [.int 1, .int 3, .int u]) [] (by simp) (by omega)
      obtain ⟨w, w0, w1, rfl⟩ : ∃ w : Int, 1 ≤ w ∧ w ≤ 100 ∧ d = .int w := by
        simp only [List.mem_cons, List.not_mem_nil, or_false] at hd
        rcases hd with rfl | rfl | rfl
        · exact ⟨1, by decide, by decide, rfl⟩
        · exact ⟨3, by decide, by decide, rfl⟩
        · exact ⟨u, u0, u1, rfl⟩
      obtain ⟨b, c0, c1, hb⟩ := draw_ok ns (n := n + 2 + 4 * i + 2) (m := w) [] (by omega) (by omega)
      obtain ⟨e, e0, e1, he⟩ := draw_ok ns (n := n + 2 + 4 * i + 3) (m := 8) [] (by decide) (by omega)
      have m1 : 0 ≤ u * a := Int.mul_nonneg (by omega) b0
      have m2 : u * a ≤ 100 * a := Int.mul_le_mul_of_nonneg_right u1 b0
      refine ⟨[.val (D.scr ns), .val (D.ob 0), .val (.int most), .own (ps.map toD), .val (.int u), .val (.int (x : Nat)), a6], [.val (D.scr ns), .val (D.ob 0), .val (.int most), .own ((ps ++ [((u * a + b, e) : Stroke)]).map toD), .val (.int u), .val (.int (x : Nat)), .val (.int (u * a + b))], [tw (n + 2 + 4 * (i + 1))], rfl, ?_, ps ++ [(u * a + b, e)], _, _, by simp [g1], fun p hp => ?_, rfl, rfl⟩
      · refine seqE (s_set (d := .int (u * a + b)) (s1 := [tw (n + 2 + 4 * i + 3)]) (ρ' := [.val (D.scr ns), .val (D.ob 0), .val (.int most), .own (ps.map toD), .val (.int u), .val (.int (x : Nat)), .val (.int (u * a + b))])
          (ev_lift2 (x := .int (u * a)) (y := .int b) (s1 := [tw (n + 2 + 4 * i + 1)]) (ev_lift2 (x := .int u) (y := .int a) (s1 := [tw (n + 2 + 4 * i)]) rfl (ev_call (ds := [D.scr ns, D.ob 0, .int 40]) (s1 := [tw (n + 2 + 4 * i)]) rfl ha) (i_mul (by omega)))
            (ev_call (ds := [D.scr ns, D.ob 0, .int w]) (s1 := [tw (n + 2 + 4 * i + 2)]) (ev_cons (d := D.scr ns) (s1 := [tw (n + 2 + 4 * i + 1)]) rfl (ev_cons (d := D.ob 0) (s1 := [tw (n + 2 + 4 * i + 1)]) rfl (ev_one (ev_call (ds := [D.scr ns, D.ob 0, .list [.int 1, .int 3, .int u]]) (s1 := [tw (n + 2 + 4 * i + 1)]) rfl hpk)))) hb) rfl)) ?_
        refine (s_app (ds := ps.map toD) (d := toD ((u * a + b, e) : Stroke)) (s1 := [tw (n + 2 + 4 * (i + 1))]) rfl (ev_tupV (ev_two (d := .int (u * a + b)) (s1 := [tw (n + 2 + 4 * i + 3)]) rfl (ev_call (ds := [D.scr ns, D.ob 0, .int 8]) (s1 := [tw (n + 2 + 4 * i + 3)]) rfl he))) (by rw [List.length_map]; omega)).trans ?_
        rw [List.map_append]; rfl
      · rcases List.mem_append.mp hp with hp | hp
        · exact g2 p hp
        · rw [List.mem_singleton.mp hp]
          exact ⟨⟨by show 0 ≤ u * a + b; omega, by show u * a + b ≤ 100000; omega⟩, ⟨e0, by show e ≤ 7; omega⟩, by show u * a + b ≤ 4000; omega⟩
  rw [List.length_range] at g1 g4
  subst g3 g4
  obtain ⟨heard, hs, hg, hm, hl⟩ := sset_strokes (ps := ps) (by intro e; rw [e] at g1; simp at g1; omega) (by omega) fun p hp => ⟨(g2 p hp).1, (g2 p hp).2.1⟩
  refine ⟨heard, n + 2 + 4 * c, hg, fun p hp => (g2 p ((hm p).mp hp)).2.2, by omega, by omega, by omega, fnB_rt (seqE (ρ' := [.val (D.scr ns), .val (D.ob 0), .val (.int most), .own [], .emp, .emp, .emp]) (st' := [tw n]) rfl (seqE (s_set (ρ' := [.val (D.scr ns), .val (D.ob 0), .val (.int most), .own [], .val (.int u), .emp, .emp]) (ev_call (ds := [D.scr ns, D.ob 0, .list [.int 1, .int 7, .int 24, .int 100]]) (s1 := [tw n]) rfl hp)) (seqE he (seqE (s_ice rfl (ρ' := [.val (D.scr ns), .val (D.ob 0), .val (.int most), .val (.list (ps.map toD)), .val (.int u), a5, a6])) (s_ret (ev_lstV ?_))))))⟩
  show (EO.ok (PyData.list (ps.map toD)) [tw (n + 2 + 4 * c)]).bnd (fun d st => EO.ofO (gSortSet d) st) = _
  rw [EO.bnd_ok, hs]; rfl
end BF

/-! BE1: plain: one lemma a combinator, for the evaluation by search. -/
namespace BF
open PySem L2 PySem.W
section
variable {α : Type} {ρ ρ' ρ1 : Slots} {st s1 s2 s3 : Sto} {f g : EF} {t u : TF} {a b : SF} {o : SO} {d e x y : D} {k k2 : Bool}
theorem set0 {l : Slots} {s s' : Slot} : (s' :: l).set 0 s = s :: l := rfl
theorem setS {l l' : Slots} {s s' : Slot} {i : Nat} (h : l.set i s = l') : (s' :: l).set (i + 1) s = s' :: l' := by rw [← h]; rfl
theorem tg_nm {i v : Nat} (h1 : ρ.set v .emp = ρ1) (h2 : ρ1.set i (.val d) = ρ') : Tgt.set (.nm i) d (wipeS ρ [v]) = some ρ' := by rw [← h2, ← h1]; rfl
theorem tg_nm0 {i : Nat} (h2 : ρ.set i (.val d) = ρ') : Tgt.set (.nm i) d ρ = some ρ' := by rw [← h2]; rfl
theorem wp0 : wipeS ρ [] = ρ := rfl
theorem wpS {v : Nat} {vs : List Nat} (h : wipeS ρ vs = ρ1) (h2 : ρ1.set v .emp = ρ') : wipeS ρ (v :: vs) = ρ' := by rw [← h2, ← h]; rfl
theorem sa0 : setAll [] [] ρ = some ρ := rfl
theorem saS {j : Nat} {js : List Nat} {ds : List D} (h : ρ.set j (.val d) = ρ1) (h2 : setAll js ds ρ1 = some ρ') : setAll (j :: js) (d :: ds) ρ = some ρ' := by
  rw [← h2, ← h]; rfl
theorem tg_tp {vs js : List Nat} {ds : List D} (h1 : wipeS ρ vs = ρ1) (h2 : setAll js ds ρ1 = some ρ') : Tgt.set (.tp js) (.tuple ds) (wipeS ρ vs) = some ρ' := by rw [h1]; exact h2
theorem tg_tp0 {js : List Nat} {ds : List D} (h2 : setAll js ds ρ = some ρ') : Tgt.set (.tp js) (.tuple ds) ρ = some ρ' := h2
theorem v_set {i : Nat} (h : f ρ st = .ok d s1) (h2 : ρ.set i (.val d) = ρ') : asgS (.nm i) f ρ st = .nx ρ' s1 := s_set h h2
theorem v_asg {tg : Tgt} (h : f ρ st = .ok d s1) (h2 : tg.set d ρ = some ρ') : asgS tg f ρ st = .nx ρ' s1 := by unfold asgS; rw [h, SO.ofE_ok, h2]
theorem v_own {i : Nat} {r : AF} {ds : List D} (h : r ρ st = .ok ds s1) (hi : i < ρ.length) (h2 : ρ.set i (.own ds) = ρ') : ownS i r ρ st = .nx ρ' s1 := s_own h hi h2
theorem v_ice {i : Nat} {ds : List D} (h : ρ[i]? = some (.own ds)) (h2 : ρ.set i (.val (.list ds)) = ρ') : iceS i ρ st = .nx ρ' st := s_ice h h2
theorem v_ice0 {i : Nat} (h : ρ[i]? = some (.val d)) (h2 : ρ.set i (.val d) = ρ') : iceS i ρ st = .nx ρ' st := by unfold iceS; rw [h, ← h2]; rfl
theorem v_app {i : Nat} {ds : List D} (h : ρ[i]? = some (.own ds)) (h1 : f ρ st = .ok d s1) (h2 : ds.length < 16777216) (h3 : ρ.set i (.own (ds ++ [d])) = ρ') : upS i f appU ρ st = .nx ρ' s1 := by rw [← h3]; exact s_app h h1 h2
theorem v_ext {i : Nat} {ds es : List D} (h : ρ[i]? = some (.own ds)) (h1 : f ρ st = .ok (.list es) s1) (h2 : ds.length + es.length ≤ 16777216) (h3 : ρ.set i (.own (ds ++ es)) = ρ') : upS i f extU ρ st = .nx ρ' s1 := by rw [← h3]; exact s_ext h h1 h2
theorem v_par {i j : Nat} {r : AF} (h : r ρ st = .ok [d, e] s1) (h1 : ρ.set i (.val d) = ρ1) (h2 : ρ1.set j (.val e) = ρ') : parS i j r ρ st = .nx ρ' s1 := by unfold parS; rw [h, ← h2, ← h1]; rfl
theorem v_new {i : Nat} {r : AF} {ds : List D} (h : r ρ st = .ok ds s1) (h2 : ρ.set i (.val (D.ob s1.length)) = ρ') : newOb i r ρ st = .nx ρ' (s1 ++ [.lst ds]) := by unfold newOb; rw [h, ← h2]; rfl
theorem v_if1 (h : t ρ st = .ok k s1) (hk : k = true) (h2 : a ρ s1 = o) : ifS t a b ρ st = o := s_if1 (by rw [h, hk]) h2
theorem v_if0 (h : t ρ st = .ok k s1) (hk : k = false) (h2 : b ρ s1 = o) : ifS t a b ρ st = o := s_if0 (by rw [h, hk]) h2
theorem v_skip : skipS ρ st = .nx ρ st := rfl
theorem v_raise {c : Nat} : raiseS c ρ st = .err c ρ st := rfl
theorem v_ite1 {β : Type} {f g : XF β} {r : EO β} (h1 : t ρ st = .ok k s1) (hk : k = true) (h2 : f ρ s1 = r) : iteF t f g ρ st = r := ev_ite h1 (by rw [if_pos hk]; exact h2)
theorem v_ite0 {β : Type} {f g : XF β} {r : EO β} (h1 : t ρ st = .ok k s1) (hk : k = false) (h2 : g ρ s1 = r) : iteF t f g ρ st = r := ev_ite h1 (by rw [if_neg (by rw [hk]; simp)]; exact h2)
theorem v_and1 (h1 : t ρ st = .ok k s1) (hk : k = true) (h2 : u ρ s1 = .ok k2 s2) : andT t u ρ st = .ok k2 s2 := ev_and (by rw [h1, hk]) h2
theorem v_and0 (h1 : t ρ st = .ok k s1) (hk : k = false) : andT t u ρ st = .ok false s1 := ev_and0 (by rw [h1, hk])
theorem v_or0 (h1 : t ρ st = .ok k s1) (hk : k = false) (h2 : u ρ s1 = .ok k2 s2) : orT t u ρ st = .ok k2 s2 := ev_or (by rw [h1, hk]) h2
theorem v_or1 (h1 : t ρ st = .ok k s1) (hk : k = true) : orT t u ρ st = .ok true s1 := ev_or1 (by rw [h1, hk])
theorem v_call {n : Nat} {fn : Fn} {r : AF} {ds : List D} {q : EO D} (h1 : r ρ st = .ok ds s1) (hn : ds.length = n) (h2 : fn ds s1 = q) : callF n fn r ρ st = q := ev_call h1 h2 hn
theorem v_no : noP ρ st = .ok none st := rfl
theorem v_some {j : Int} (h : f ρ st = .ok (.int j) s1) : someP f ρ st = .ok (some j) s1 := by unfold someP; rw [h]; rfl
theorem v_sl {lo hi : XF (Option Int)} {l h : Option Int} (h1 : f ρ st = .ok x s1) (h2 : lo ρ s1 = .ok l s2) (h3 : hi ρ s2 = .ok h s3) (h4 : gSl x l h = some d) : slF f lo hi ρ st = .ok d s3 := by
  unfold slF; rw [h1, EO.bnd_ok, h2, EO.bnd_ok, h3, EO.bnd_ok, h4]; rfl
theorem v_tupV {r : AF} {ds : List D} (h1 : r ρ st = .ok ds s1) (hn : ds.length ≤ 1000) : tupV r ρ st = .ok (.tuple ds) s1 := ev_tupV h1 hn
theorem v_chk {r : AF} {ds : List D} (h1 : r ρ st = .ok ds s1) (hn : ds.length ≤ 1000) : chk r ρ st = .ok ds s1 := ev_chk h1 hn
theorem v_rng2 {i j : Int} (h1 : f ρ st = .ok (.int i) s1) (h2 : g ρ s1 = .ok (.int j) s2) (h3 : -1000000 ≤ i ∧ i ≤ 1000000 ∧ -1000000 ≤ j ∧ j ≤ 1000000) : rng2 f g ρ st = .ok ((List.range (j - i).toNat).map fun m => .int (i + (m : Nat))) s2 := by
  unfold rng2; rw [h1, EO.bnd_ok, h2, EO.bnd_ok]; exact if_pos h3
theorem v_ss {ds : List D} (h : f ρ st = .ok d s1) (h2 : gSortSet d = some ds) : ssF f ρ st = .ok ds s1 := by unfold ssF; rw [h, EO.bnd_ok, h2]; rfl
theorem v_addL {xs ys : List D} (h1 : f ρ st = .ok (.list xs) s1) (h2 : g ρ s1 = .ok (.list ys) s2) (h3 : xs.length + ys.length ≤ 16777216) : addL f g ρ st = .ok (xs ++ ys) s2 := by
  unfold addL; rw [h1, EO.bnd_ok, h2, EO.bnd_ok]
  show EO.ofO (if xs.length + ys.length ≤ sizeLine then some (xs ++ ys) else none) _ = _
  rw [if_pos (by rw [sizeLine_eq]; exact h3)]; rfl
theorem v_methL {h : D → D → Option D} {xs : List D} (h1 : f ρ st = .ok (.list xs) s1) (h2 : g ρ s1 = .ok y s2) (h3 : h (.list xs) y = some d) : methL h f g ρ st = .ok d s2 := by
  unfold methL; rw [h1]; simp only [EO.bnd_ok, h2, h3]; rfl
theorem v_methS {h : D → D → Option α} {z : α} (h1 : f ρ st = .ok x s1) (hx : isStr x = true) (h2 : g ρ s1 = .ok y s2) (h3 : h x y = some z) : methS h f g ρ st = .ok z s2 := by
  unfold methS; rw [h1, EO.bnd_ok, if_pos hx, h2, EO.bnd_ok, h3]; rfl
theorem v_idxO {i : Nat} {ds : List D} {j : Int} (h : ρ[i]? = some (.own ds)) (h1 : f ρ st = .ok (.int j) s1) (h2 : atI ds j = some d) : idxO i f ρ st = .ok d s1 := by
  unfold idxO; rw [h]; simp only [h1, EO.bnd_ok, h2]; rfl
theorem v_liftTO {h : D → D → Option Bool} {i : Nat} {ds : List D} (h1 : f ρ st = .ok x s1) (h0 : ρ[i]? = some (.own ds)) (h2 : h x (.list ds) = some k) : liftTO h f i ρ st = .ok k s1 := by
  unfold liftTO; rw [h1, EO.bnd_ok]; simp only [h0, h2]; rfl
theorem v_keep {m i j : Nat} (h : a ρ st = .nx ρ' s1) : keepS m i j a ρ st = .nx ρ' s1 := by unfold keepS; rw [h]
theorem v_keepE {m i j c : Nat} {ρ2 ρ3 ρ4 : Slots} (h : a ρ st = .err c ρ1 s1) (hc : c < m) (h1 : ρ1.set i .emp = ρ2) (h2 : ρ2.set j (.val (D.ex c)) = ρ3) (h3 : ρ3.set i .emp = ρ4) : keepS m i j a ρ st = .nx ρ4 s1 := by
  unfold keepS; rw [h]; show (if c < m then _ else _) = _; rw [if_pos hc, h1, h2, h3]
theorem v_setE {c : Nat} {tg : Tgt} (h : f ρ st = .err c s1) : asgS tg f ρ st = .err c ρ s1 := by unfold asgS; rw [h]; rfl
theorem v_retE {c : Nat} (h : f ρ st = .err c s1) : retS f ρ st = .err c ρ s1 := by unfold retS; rw [h]; rfl
/-- each of a list -/
theorem v_all {fi : AF} {tg : Tgt} {vs : List Nat} {te : EF} {β : Type} {enc : β → D} {xs : List β} {h : β → D} (hi : fi ρ st = .ok (xs.map enc) s1) (hb : ∀ x ∈ xs, ∃ ρ', tg.set (enc x) (wipeS ρ vs) = some ρ' ∧ te ρ' s1 = .ok (h x) s1) :
    lcF fi tg vs yesT te ρ st = .ok (xs.map h) s1 := lc_all enc xs h hi hb
theorem v_filter {fi : AF} {tg : Tgt} {vs : List Nat} {tt : TF} {te : EF} {β : Type} {enc : β → D} {xs : List β} {p : β → Bool} {h : β → D} (hi : fi ρ st = .ok (xs.map enc) s1)
    (hb : ∀ x ∈ xs, ∃ ρ', tg.set (enc x) (wipeS ρ vs) = some ρ' ∧ tt ρ' s1 = .ok (p x) s1 ∧ te ρ' s1 = .ok (h x) s1) : lcF fi tg vs tt te ρ st = .ok ((xs.filter p).map h) s1 :=
  lc_ok enc xs p h hi fun x hx => let ⟨r, h1, h2, h3⟩ := hb x hx; ⟨r, h1, h2, fun _ => h3⟩
end
theorem v_c {d : D} {ρ : Slots} {st : Sto} : eC d ρ st = .ok d st := rfl
theorem v_v {i : Nat} {d : D} {ρ : Slots} {st : Sto} (h : ρ[i]? = some (.val d)) : eVar i ρ st = .ok d st := by unfold eVar; rw [h]
theorem sh_opt {α : Type} {o : Option α} {d : α} (h : o = some d) : o = some d := h
theorem sh_bool {a b : Bool} (h : a = b) : a = b := h
theorem sh_le {a b : Nat} (h : a ≤ b) : a ≤ b := h
theorem sh_lt {a b : Nat} (h : a < b) : a < b := h
/-! ### operations on known shapes -/
section
variable {i j : Int} {xs ys : List D} {α : Type} [DecidableEq α] [Datum α] [Lay α]
theorem p_addL (h : xs.length + ys.length ≤ 16777216) : gAdd (.list xs) (.list ys) = some (.list (xs ++ ys)) := by
  show (if xs.length + ys.length ≤ sizeLine then some _ else none) = _
  rw [if_pos (by rw [sizeLine_eq]; exact h)]
theorem p_addT (h : xs.length + ys.length ≤ 16777216) : gAdd (.tuple xs) (.tuple ys) = some (.tuple (xs ++ ys)) := by
  show (if xs.length + ys.length ≤ sizeLine then some _ else none) = _
  rw [if_pos (by rw [sizeLine_eq]; exact h)]
theorem p_eqI : gEq (.int i) (.int j) = some (decide (i = j)) := gEq_toD (α := Int) i j
theorem p_neI : gNe (.int i) (.int j) = some (!decide (i = j)) := gNe_toD (α := Int) i j
theorem p_mulI (h : (-(2 ^ 64) < i ∧ i < 2 ^ 64) ∨ (-(2 ^ 64) < j ∧ j < 2 ^ 64)) : gMul (.int i) (.int j) = some (.int (i * j)) := by
  show (if _ then some _ else none) = _
  rw [if_pos]
  simp only [Bool.or_eq_true, Bool.and_eq_true, decide_eq_true_eq]
  exact h
theorem p_mod (h : 0 < j) : gMod (.int i) (.int j) = some (.int (i % j)) := by
  show (if 0 < j then some _ else none) = _
  rw [if_pos h]
theorem p_fdiv (h : 0 < j ∧ j < 1073741824) : gFdiv (.int i) (.int j) = some (.int (i / j)) := by
  show (if 0 < j ∧ j < 1073741824 then some _ else none) = _
  rw [if_pos h]
theorem p_idxL {d : D} (h : atI xs i = some d) : gIdx (.list xs) (.int i) = some d := h
theorem p_idxT {d : D} (h : atI xs i = some d) : gIdx (.tuple xs) (.int i) = some d := h
theorem at_nat {β : Type} {xs : List β} {n : Nat} {d : β} (h : xs[n]? = some d) : atI xs (n : Int) = some d := by
  have hl := (List.getElem?_eq_some_iff.mp h).1
  rw [atI_nat (by omega) (by omega)]
  simpa using h
theorem at_map {β : Type} {f : β → D} {xs : List β} {n : Nat} {d : β} (h : xs[n]? = some d) : atI (xs.map f) (n : Int) = some (f d) := at_nat (by rw [List.getElem?_map, h]; rfl)
theorem p_absI : gAbs [.int i] = some (.int (if i < 0 then -i else i)) := rfl
end
end BF

/-! BE2: plain: evaluation by rewriting: one equation a combinator. -/
namespace BF
open PySem L2 PySem.W
section
variable {α : Type} {ρ ρ' ρ1 : Slots} {st s1 s2 : Sto} {f g h : EF} {t u : TF} {a b : SF} {d e x y : D} {k k2 : Bool} {i j c : Nat} {fa : AF} {ds es : List D}
theorem x_seq : seqS a b ρ st = (a ρ st).thn b := rfl
theorem x_set : asgS (.nm i) f ρ st = SO.ofE (f ρ st) ρ fun d st => .nx (ρ.set i (.val d)) st := by unfold asgS; congr
theorem x_tp {js : List Nat} : asgS (.tp js) f ρ st = SO.ofE (f ρ st) ρ fun d st => match (Tgt.tp js).set d ρ with | some ρ' => .nx ρ' st | none => .bad := rfl
theorem x_ret : retS f ρ st = SO.ofE (f ρ st) ρ fun d st => .rt d st := rfl
theorem x_drop : dropS f ρ st = SO.ofE (f ρ st) ρ fun _ st => .nx ρ st := rfl
theorem x_if : ifS t a b ρ st = SO.ofE (t ρ st) ρ fun x st => if x = true then a ρ st else b ρ st := rfl
theorem x_skip : skipS ρ st = .nx ρ st := rfl
theorem x_raise : raiseS c ρ st = .err c ρ st := rfl
theorem x_own : ownS i fa ρ st = SO.ofE (fa ρ st) ρ fun ds st => if i < ρ.length then .nx (ρ.set i (.own ds)) st else .bad := rfl
theorem x_new : newOb i fa ρ st = SO.ofE (fa ρ st) ρ fun ds st => .nx (ρ.set i (.val (D.ob st.length))) (st ++ [.lst ds]) := rfl
theorem x_new0 : newOb i (chk aNil) ρ [] = .nx (ρ.set i (.val (D.ob 0))) [BF.tw 0] := rfl
theorem x_ice : iceS i ρ st = match (ρ[i]?).bind Slot.ice with | some s => .nx (ρ.set i s) st | none => .bad := by unfold iceS; cases (ρ[i]?).bind Slot.ice <;> rfl
theorem x_iceO : Slot.ice (.own ds) = some (.val (.list ds)) := rfl
theorem x_iceV : Slot.ice (.val d) = some (.val d) := rfl
theorem x_var : eVar i ρ st = match ρ[i]? with | some (.val d) => .ok d st | _ => .bad := rfl
theorem x_c : eC d ρ st = .ok d st := rfl
theorem x_lift1 {g : D → Option D} : lift1 g f ρ st = (f ρ st).bnd fun x st => .ofO (g x) st := rfl
theorem x_lift2 {g : D → D → Option D} {f f' : EF} : lift2 g f f' ρ st = (f ρ st).bnd fun x st => (f' ρ st).bnd fun y st => .ofO (g x y) st := rfl
theorem x_liftT {g : D → D → Option Bool} {f f' : EF} : liftT g f f' ρ st = (f ρ st).bnd fun x st => (f' ρ st).bnd fun y st => .ofO (g x y) st := rfl
theorem x_tv : tv t ρ st = (t ρ st).bnd fun b st => .ok (.bool b) st := rfl
theorem x_tru : truF f ρ st = (f ρ st).bnd fun d st => .ofO (gTru d) st := rfl
theorem x_not : notT t ρ st = (t ρ st).bnd fun b st => .ok (!b) st := rfl
theorem x_and : andT t u ρ st = (t ρ st).bnd fun b st => if b = true then u ρ st else .ok false st := rfl
theorem x_or : orT t u ρ st = (t ρ st).bnd fun b st => if b = true then .ok true st else u ρ st := rfl
theorem x_ite {f f' : XF α} : iteF t f f' ρ st = (t ρ st).bnd fun b st => if b = true then f ρ st else f' ρ st := rfl
theorem x_bV : bV f ρ st = (f ρ st).bnd fun d st => match d with | .bool b => .ok b st | _ => .bad := by
  unfold bV; congr
theorem x_nil : aNil ρ st = .ok [] st := rfl
theorem x_cons : aCons f fa ρ st = (f ρ st).bnd fun d st => (fa ρ st).bnd fun ds st => .ok (d :: ds) st := rfl
theorem x_call {n : Nat} {fn : Fn} : callF n fn fa ρ st = (fa ρ st).bnd fun ds st => if ds.length = n then fn ds st else .bad := rfl
theorem x_callG {g : List D → Option α} : callG g fa ρ st = (fa ρ st).bnd fun ds st => .ofO (g ds) st := rfl
theorem x_lst : lstV fa ρ st = (fa ρ st).bnd fun ds st => .ok (.list ds) st := rfl
theorem x_tup : tupV fa ρ st = (fa ρ st).bnd fun ds st => if ds.length ≤ 1000 then .ok (.tuple ds) st else .bad := rfl
theorem x_chk : chk fa ρ st = (fa ρ st).bnd fun ds st => if ds.length ≤ 1000 then .ok ds st else .bad := rfl
theorem x_walk : walk f ρ st = (f ρ st).bnd fun d st => .ofO (itemsOf d) st := rfl
theorem x_addL {f f' : EF} : addL f f' ρ st = (f ρ st).bnd fun x st => (f' ρ st).bnd fun y st => .ofO (gAddL x y) st := rfl
theorem x_methS {g : D → D → Option α} {f f' : EF} : methS g f f' ρ st = (f ρ st).bnd fun x st => if isStr x = true then (f' ρ st).bnd fun y st => .ofO (g x y) st else .bad := rfl
theorem x_noP : noP ρ st = .ok none st := rfl
theorem x_someP : someP f ρ st = (f ρ st).bnd fun d st => match d with | .int i => .ok (some i) st | _ => .bad := rfl
theorem x_sl {lo hi : XF (Option Int)} : slF f lo hi ρ st = (f ρ st).bnd fun x st => (lo ρ st).bnd fun l st => (hi ρ st).bnd fun h st => .ofO (gSl x l h) st := rfl
theorem x_ss : ssF f ρ st = (f ρ st).bnd fun d st => .ofO (gSortSet d) st := rfl
theorem x_ssX : ssX f ρ st = (f ρ st).bnd fun d st => .ofO (gSortSetX d) st := rfl
theorem x_up {u : List D → D → Option (List D)} : upS i f u ρ st = match ρ[i]? with
  | some (.own ds) => SO.ofE (f ρ st) ρ fun d st => match u ds d with | some ds' => .nx (ρ.set i (.own ds')) st | none => .bad
  | _ => .bad := rfl
theorem x_appU : appU ds d = if ds.length < 16777216 then some (ds ++ [d]) else none := rfl
theorem x_extU : extU ds (.list es) = if ds.length + es.length ≤ 16777216 then some (ds ++ es) else none := rfl
theorem x_par : parS i j fa ρ st = SO.ofE (fa ρ st) ρ fun ds st => match ds with | [d, e] => .nx ((ρ.set i (.val d)).set j (.val e)) st | _ => .bad := by
  unfold parS; congr
theorem x_if1 {β : Type} {x y : β} : (if (true = true) then x else y) = x := rfl
theorem x_if0 {β : Type} {x y : β} : (if (false = true) then x else y) = y := rfl
theorem x_lcE {fi : AF} {tg : Tgt} {vs : List Nat} : lcE fi tg vs f ρ st = (fi ρ st).bnd fun ds st => lcLoopE tg f ds (wipeS ρ vs) st [] := rfl
theorem x_lcF {fi : AF} {tg : Tgt} {vs : List Nat} : lcF fi tg vs t f ρ st = (fi ρ st).bnd fun ds st => lcLoop tg t f ds (wipeS ρ vs) st [] := rfl
theorem x_for {fi : AF} {tg : Tgt} : forS fi tg a ρ st = SO.ofE (fi ρ st) ρ fun ds st => forLoop tg a ds ρ st := rfl
theorem x_loopN {tg : Tgt} : forLoop tg a [] ρ st = .nx ρ st := rfl
theorem x_loopC {tg : Tgt} : forLoop tg a (d :: ds) ρ st = match tg.set d ρ with
    | none => .bad
    | some ρ' => match a ρ' st with
      | .nx ρ st => forLoop tg a ds ρ st
      | .ct ρ st => forLoop tg a ds ρ st
      | .bk ρ st => .nx ρ st
      | o => o := rfl
theorem x_setN : (Tgt.nm i).set d ρ = some (ρ.set i (.val d)) := rfl
theorem x_setT {js : List Nat} : (Tgt.tp js).set (.tuple ds) ρ = setAll js ds ρ := rfl
theorem x_sa0 : setAll [] [] ρ = some ρ := rfl
theorem x_saS {js : List Nat} : setAll (j :: js) (d :: ds) ρ = setAll js ds (ρ.set j (.val d)) := rfl
theorem x_wipe0 : wipeS ρ [] = ρ := rfl
theorem x_wipeS {v : Nat} {vs : List Nat} : wipeS ρ (v :: vs) = (wipeS ρ vs).set v .emp := rfl
theorem x_keep {m : Nat} : keepS m i j a ρ st = match a ρ st with
  | .err c ρ' st' => if c < m then .nx (((ρ'.set i .emp).set j (.val (D.ex c))).set i .emp) st' else .bad
  | o => o := rfl
theorem x_fn {n : Nat} : fnB n a ds st = match a (ds.map .val ++ List.replicate (n - ds.length) .emp) st with
  | .nx _ st => .ok .none st
  | .rt d st => .ok d st
  | .err c _ st => .err c st
  | _ => .bad := rfl
theorem x_rng1 {n : Int} (h : f ρ st = .ok (.int n) s1) (h2 : -1000000 ≤ n ∧ n ≤ 1000000) : rng1 f ρ st = .ok ((List.range n.toNat).map fun i => .int (i : Nat)) s1 := ev_rng1 h h2
end
/-! values -/
theorem shaped_str {x : Str} (h : PySem.PyData.strOk x = true) : SeqAt.shaped (.str x) = true := by
  unfold SeqAt.shaped
  rw [show PyData.canLay0 (.str x) = PySem.PyData.strOk x from rfl, h]; rfl
section
variable {i j : Int} {x y : Str} {xs ys : List D}
theorem z_addI : gAdd (.int i) (.int j) = some (.int (i + j)) := rfl
theorem z_addS (h : x.length + y.length ≤ 16777216) : gAdd (.str x) (.str y) = some (.str (x ++ y)) := by
  show (if x.length + y.length ≤ sizeLine then some _ else none) = _
  rw [if_pos (by rw [sizeLine_eq]; exact h)]
theorem z_addL (h : xs.length + ys.length ≤ 16777216) : gAdd (.list xs) (.list ys) = some (.list (xs ++ ys)) := p_addL h
theorem z_sub : BF.gSub (.int i) (.int j) = some (.int (i - j)) := rfl
theorem z_lenL : gLen [.list xs] = some (.int xs.length) := rfl
theorem z_lenT : gLen [.tuple xs] = some (.int xs.length) := rfl
theorem z_lenS (h : x.length ≤ 16777216) : gLen [.str x] = some (.int x.length) := by
  show (if x.length ≤ sizeLine then some _ else none) = _
  rw [if_pos (by rw [sizeLine_eq]; exact h)]
theorem eqv_str : PyData.eqv (.str x) (.str y) = decide (x = y) := Datum.eqv x y
theorem z_eqS (h : PySem.PyData.strOk x = true) (h2 : PySem.PyData.strOk y = true) : gEq (.str x) (.str y) = some (decide (x = y)) := by
  show (if _ then some _ else none) = _
  rw [eqv_str, shaped_str h, shaped_str h2]; rfl
theorem z_neS (h : PySem.PyData.strOk x = true) (h2 : PySem.PyData.strOk y = true) : gNe (.str x) (.str y) = some (!decide (x = y)) := by
  show (if _ then some _ else none) = _
  rw [eqv_str, shaped_str h, shaped_str h2]; rfl
theorem z_eqI : gEq (.int i) (.int j) = some (decide (i = j)) := p_eqI
theorem z_neI : gNe (.int i) (.int j) = some (!decide (i = j)) := p_neI
theorem z_tupL : gTupOf [.list xs] = some (.tuple xs) := rfl
theorem z_itemsL : itemsOf (.list xs) = some xs := rfl
theorem z_itemsT : itemsOf (.tuple xs) = some xs := rfl
theorem z_isStr : isStr (.str x) = true := rfl
theorem z_truB {b : Bool} : gTru (.bool b) = some b := rfl
theorem z_gtI : gGt (.int i) (.int j) = some (decide (i > j)) := rfl
theorem z_isN : gIsN .none .none = some true := rfl
end
end BF

/-! BP25: plain: texts: signs, digits, words; bars written. -/
namespace BF
open PySem L2 PySem.W R
--XS{
local macro_rules | `(tactic| simp_arith [$xs,*]) => `(tactic| simp only [x_seq, SO.thn_nx, SO.thn_rt, SO.thn_err, SO.ofE_ok, SO.ofE_err, EO.bnd_ok, EO.bnd_err, EO.ofO_some, x_set, x_tp, x_ret, x_drop, x_if, x_skip, x_raise, x_own, x_new0, x_ice, x_iceO, x_iceV, x_var, x_c, x_lift1, x_lift2, x_liftT, x_tv, x_tru, x_not, x_and, x_or, x_ite, x_bV, x_nil, x_cons, x_call, x_callG, x_lst, x_tup, x_chk, x_walk, x_addL, x_methS, x_noP, x_someP, x_sl, x_ss, x_ssX, x_up, x_appU, x_extU, x_par, x_if1, x_if0, x_lcE, x_for, x_setN, x_setT, x_sa0, x_saS, x_wipe0, x_wipeS, x_keep, z_addI, z_sub, z_lenL, z_lenT, z_tupL, z_itemsL, z_itemsT, z_truB, z_isStr, Nat.zero_le, z_gtI, z_isN, z_eqI, z_neI, List.getElem?_cons_zero, List.getElem?_cons_succ, List.set_cons_zero, List.set_cons_succ, List.length_cons, List.length_nil, Nat.zero_add, Nat.reduceAdd, Nat.reduceLeDiff, Nat.reduceLT, Option.bind_some, if_true, if_false, Bool.not_true, Bool.not_false, reduceCtorEq, Bool.false_eq_true, $xs,*])
local macro_rules | `(tactic| simp_arith [$xs,*] at $h:ident) => `(tactic| simp only [x_seq, SO.thn_nx, SO.thn_rt, SO.thn_err, SO.ofE_ok, SO.ofE_err, EO.bnd_ok, EO.bnd_err, EO.ofO_some, x_set, x_tp, x_ret, x_drop, x_if, x_skip, x_raise, x_own, x_new0, x_ice, x_iceO, x_iceV, x_var, x_c, x_lift1, x_lift2, x_liftT, x_tv, x_tru, x_not, x_and, x_or, x_ite, x_bV, x_nil, x_cons, x_call, x_callG, x_lst, x_tup, x_chk, x_walk, x_addL, x_methS, x_noP, x_someP, x_sl, x_ss, x_ssX, x_up, x_appU, x_extU, x_par, x_if1, x_if0, x_lcE, x_for, x_setN, x_setT, x_sa0, x_saS, x_wipe0, x_wipeS, x_keep, z_addI, z_sub, z_lenL, z_lenT, z_tupL, z_itemsL, z_itemsT, z_truB, z_isStr, Nat.zero_le, z_gtI, z_isN, z_eqI, z_neI, List.getElem?_cons_zero, List.getElem?_cons_succ, List.set_cons_zero, List.set_cons_succ, List.length_cons, List.length_nil, Nat.zero_add, Nat.reduceAdd, Nat.reduceLeDiff, Nat.reduceLT, Option.bind_some, if_true, if_false, Bool.not_true, Bool.not_false, reduceCtorEq, Bool.false_eq_true, $xs,*] at $h:ident)
--XS}
abbrev cs (x : Str) : List Nat := x.cps.toList
abbrev sg (c : Nat) : Str := ⟨#[c]⟩
abbrev ofC (l : List Nat) : Str := ⟨l.toArray⟩
theorem cs_ofC (l : List Nat) : cs (ofC l) = l := rfl
theorem ofC_cs (x : Str) : ofC (cs x) = x := TL.mk_tl x
theorem cs_ext {x y : Str} (h : cs x = cs y) : x = y := TL.ext_tl h
theorem cs_ln (x : Str) : x.length = (cs x).length := TL.len_tl x
theorem cs_app (x y : Str) : cs (x ++ y) = cs x ++ cs y := TL.tl_append x y
theorem signs_eq (x : Str) : signs x = (cs x).map fun c => .str (sg c) := rfl
theorem ok_of {x : Str} (h : ∀ c ∈ cs x, c < 128) : PyData.strOk x = true := by
  unfold PyData.strOk
  rw [Array.all_eq_true]
  intro i hi
  have := h x.cps[i] (by simp)
  simp; omega
theorem z_inS (c : Nat) (y : Str) : gIn (.str (sg c)) (.str y) = some (decide (c ∈ cs y)) := congrArg some (StrLaws.found_one y c)
theorem z_ninS (c : Nat) (y : Str) : gNotIn (.str (sg c)) (.str y) = some (!decide (c ∈ cs y)) := congrArg (fun b => some (!b)) (StrLaws.found_one y c)
abbrev sDash : Str := PySem.Str.ofString "-"
abbrev sDot : Str := PySem.Str.ofString "."
abbrev sFig : Str := PySem.Str.ofString "01234567"
theorem cs_dash : cs sDash = [45] := by decide +kernel
theorem cs_dot : cs sDot = [46] := by decide +kernel
theorem cs_fig : cs sFig = [48, 49, 50, 51, 52, 53, 54, 55] := by decide +kernel
theorem cs_emp : cs (PySem.Str.ofString "") = [] := by decide +kernel
theorem ok_dash : PyData.strOk sDash = true := by decide +kernel
theorem ok_emp : PyData.strOk (PySem.Str.ofString "") = true := by decide +kernel
theorem mem_fig {c : Nat} : c ∈ cs sFig ↔ 48 ≤ c ∧ c ≤ 55 := by rw [cs_fig]; simp; omega
/-! ### digits -/
theorem int_sg {c : Nat} (h : 48 ≤ c ∧ c ≤ 55) : gIntA [.str (sg c)] = some (.int ((c : Int) - 48)) := by
  have : c = 48 ∨ c = 49 ∨ c = 50 ∨ c = 51 ∨ c = 52 ∨ c = 53 ∨ c = 54 ∨ c = 55 := by omega
  rcases this with rfl | rfl | rfl | rfl | rfl | rfl | rfl | rfl <;> kernel_rfl
theorem str_dig {m : Int} (h : 0 ≤ m ∧ m ≤ 7) : gStr [.int m] = some (.str (sg (48 + m.toNat))) := by
  have : m = 0 ∨ m = 1 ∨ m = 2 ∨ m = 3 ∨ m = 4 ∨ m = 5 ∨ m = 6 ∨ m = 7 := by omega
  rcases this with rfl | rfl | rfl | rfl | rfl | rfl | rfl | rfl <;> kernel_rfl
/-! ### joined -/
theorem cs_join (y : Str) (ps : List Str) : cs (Txt.join y ps) = TL.joinL (cs y) (ps.map cs) := by rw [TL.join_eq]; exact TL.tl_join y ps
theorem joinE : ∀ l : List Nat, TL.joinL [] (l.map fun c => [c]) = l
  | [] => rfl
  | [c] => rfl
  | c :: d :: r => by
    have := joinE (d :: r)
    show [c] ++ ([] ++ TL.joinL [] ((d :: r).map fun c => [c])) = c :: d :: r
    rw [this]; rfl
theorem join_sg (l : List Nat) : Txt.join (PySem.Str.ofString "") (l.map sg) = ofC l := cs_ext (by
  rw [cs_join, cs_emp, List.map_map]
  exact joinE l)
theorem z_join {y : Str} {ps : List Str} (h : (ps.map (·.length)).sum + ps.length * y.length ≤ 16777216) : gJoin (.str y) (.list (ps.map .str)) = some (.str (Txt.join y ps)) := by
  show (isStrs (ps.map .str)).bind _ = _
  rw [isStrs_of]
  show (if _ then _ else _) = _
  rw [if_pos h]
theorem sum_le {α : Type} {f : α → Nat} {k : Nat} : ∀ {l : List α}, (∀ a ∈ l, f a ≤ k) → (l.map f).sum ≤ l.length * k
  | [], _ => by simp
  | a :: l, h => by
    have h1 := h a (by simp)
    have h2 := sum_le (l := l) fun b hb => h b (List.mem_cons_of_mem _ hb)
    rw [List.map_cons, List.sum_cons, List.length_cons, Nat.succ_mul]
    omega
/-! ### a bar's text -/
def stepTx (s : Step) : Str := if s.items = [] then sDash else ofC (s.items.map fun m => 48 + m.toNat)
def barTx (b : Bar) : Str := Txt.join sDot (b.items.map stepTx)
theorem cs_step {s : Step} (h : s.items ≠ []) : cs (stepTx s) = s.items.map fun m => 48 + m.toNat := by unfold stepTx; rw [if_neg h]
theorem stepTx_len {s : Step} (h : GoodS s) : (stepTx s).length ≤ 8 := by
  unfold stepTx
  split
  · rw [cs_ln, cs_dash]; decide
  · rw [cs_ln, cs_ofC, List.length_map]; exact h.len
theorem stepTx_asc {s : Step} (h : GoodS s) : ∀ c ∈ cs (stepTx s), c < 128 ∧ c ≠ 46 := by
  unfold stepTx
  split
  · rw [cs_dash]; intro c hc; simp at hc; omega
  · rw [cs_ofC]
    intro c hc
    obtain ⟨m, hm, rfl⟩ := List.mem_map.mp hc
    have := h.2 m hm
    omega
theorem lc_pads {s : Step} (h : GoodS s) (a : Slot) (st : Sto) : lc_bar_text_1 [a, .val (toD s), .emp] st = .ok ((s.items.map fun m => sg (48 + m.toNat)).map .str) st := by
  rw [List.map_map]
  refine lc_all (fun m : Int => PyData.int m) s.items (fun m => .str (sg (48 + m.toNat))) rfl fun m hm => ⟨_, rfl, ?_⟩
  simp_arith [str_dig (h.2 m hm)]
theorem bar_text_eq {n : Nat} {b : Bar} (h : GoodB n b) (hn : n ≤ 16) (st : Sto) : fn_bar_text [toD b] st = .ok (.str (barTx b)) st := by
  refine fnB_rt ?_
  have e : lc_bar_text_2 [.val (toD b), .emp, .emp] st = .ok ((b.items.map stepTx).map .str) st := by
    rw [List.map_map]
    refine lc_all (fun s : Step => toD s) b.items (fun s => .str (stepTx s)) rfl fun s hs => ⟨_, rfl, ?_⟩
    have hg := h.2 s hs
    by_cases he : s.items = []
    · have e0 : gTru (toD s) = some false := by
        show gTru (.tuple (s.items.map PyData.int)) = _
        rw [he]; rfl
      simp_arith [e0]
      unfold stepTx; rw [if_pos he]
    · have e0 : gTru (toD s) = some true := by
        show gTru (.tuple (s.items.map PyData.int)) = _
        cases hi : s.items with
        | nil => exact absurd hi he
        | cons x r => rfl
      have e1 := lc_pads hg (.val (toD b)) st
      have e2 : isStr (.str (PySem.Str.ofString "")) = true := rfl
      have e3 : gJoin (.str (PySem.Str.ofString "")) (.list ((s.items.map fun m => sg (48 + m.toNat)).map .str)) = some (.str (stepTx s)) := by
        rw [z_join]
        · rw [show (s.items.map fun m => sg (48 + m.toNat)) = (s.items.map fun m => 48 + m.toNat).map sg by rw [List.map_map]; rfl, join_sg]
          unfold stepTx; rw [if_neg he]
        · have := sum_le (f := fun x : Str => x.length) (k := 1) (l := s.items.map fun m => sg (48 + m.toNat)) (fun x hx => by
            obtain ⟨m, _, rfl⟩ := List.mem_map.mp hx
            exact Nat.le_refl 1)
          have h8 := hg.len
          rw [List.length_map] at this ⊢
          rw [cs_ln (PySem.Str.ofString ""), cs_emp]
          simp only [List.length_nil]; omega
      simp_arith [e0, e1, e2, e3]
  have e2 : isStr (.str (PySem.Str.ofString ".")) = true := rfl
  have e3 : gJoin (.str (PySem.Str.ofString ".")) (.list ((b.items.map stepTx).map .str)) = some (.str (barTx b)) := by
    rw [z_join]; rfl
    have := sum_le (f := fun x : Str => x.length) (k := 8) (l := b.items.map stepTx) (fun x hx => by
      obtain ⟨s, hs, rfl⟩ := List.mem_map.mp hx
      exact stepTx_len (h.2 s hs))
    have h8 := h.1
    rw [List.length_map] at this ⊢
    rw [cs_ln (PySem.Str.ofString "."), cs_dot]
    simp only [List.length_cons, List.length_nil]; omega
  show b_bar_text [.val (toD b), .emp, .emp] st = _
  unfold b_bar_text
  simp_arith [e, e2, e3]
theorem written_eq {n : Nat} {b : Bar} (h : GoodB n b) (h1 : 1 ≤ n) (hn : n ≤ 16) (st : Sto) : fn_written [toD b] st = .ok (.str (barTx b)) st := by
  refine fnB_rt ?_
  show b_written [.val (toD b)] st = _
  unfold b_written
  have e := look_good (bs := [b]) (st := st) (fun c hc => by rw [List.mem_singleton.mp hc]; exact h) h1 hn (by simp) (by simp)
  have e : fn_look_bars [.list [toD b]] st = .ok .none st := e
  simp_arith [e, bar_text_eq h hn]
end BF

/-! BP26: plain: texts of bars: words, read. -/
namespace BF
open PySem L2 PySem.W R
--XS{
local macro_rules | `(tactic| simp_arith [$xs,*]) => `(tactic| simp only [x_seq, SO.thn_nx, SO.thn_rt, SO.thn_err, SO.ofE_ok, SO.ofE_err, EO.bnd_ok, EO.bnd_err, EO.ofO_some, x_set, x_tp, x_ret, x_drop, x_if, x_skip, x_raise, x_own, x_new0, x_ice, x_iceO, x_iceV, x_var, x_c, x_lift1, x_lift2, x_liftT, x_tv, x_tru, x_not, x_and, x_or, x_ite, x_bV, x_nil, x_cons, x_call, x_callG, x_lst, x_tup, x_chk, x_walk, x_addL, x_methS, x_noP, x_someP, x_sl, x_ss, x_ssX, x_up, x_appU, x_extU, x_par, x_if1, x_if0, x_lcE, x_for, x_setN, x_setT, x_sa0, x_saS, x_wipe0, x_wipeS, x_keep, z_addI, z_sub, z_lenL, z_lenT, z_tupL, z_itemsL, z_itemsT, z_truB, z_isStr, Nat.zero_le, z_gtI, z_isN, z_eqI, z_neI, List.getElem?_cons_zero, List.getElem?_cons_succ, List.set_cons_zero, List.set_cons_succ, List.length_cons, List.length_nil, Nat.zero_add, Nat.reduceAdd, Nat.reduceLeDiff, Nat.reduceLT, Option.bind_some, if_true, if_false, Bool.not_true, Bool.not_false, reduceCtorEq, Bool.false_eq_true, $xs,*])
local macro_rules | `(tactic| simp_arith [$xs,*] at $h:ident) => `(tactic| simp only [x_seq, SO.thn_nx, SO.thn_rt, SO.thn_err, SO.ofE_ok, SO.ofE_err, EO.bnd_ok, EO.bnd_err, EO.ofO_some, x_set, x_tp, x_ret, x_drop, x_if, x_skip, x_raise, x_own, x_new0, x_ice, x_iceO, x_iceV, x_var, x_c, x_lift1, x_lift2, x_liftT, x_tv, x_tru, x_not, x_and, x_or, x_ite, x_bV, x_nil, x_cons, x_call, x_callG, x_lst, x_tup, x_chk, x_walk, x_addL, x_methS, x_noP, x_someP, x_sl, x_ss, x_ssX, x_up, x_appU, x_extU, x_par, x_if1, x_if0, x_lcE, x_for, x_setN, x_setT, x_sa0, x_saS, x_wipe0, x_wipeS, x_keep, z_addI, z_sub, z_lenL, z_lenT, z_tupL, z_itemsL, z_itemsT, z_truB, z_isStr, Nat.zero_le, z_gtI, z_isN, z_eqI, z_neI, List.getElem?_cons_zero, List.getElem?_cons_succ, List.set_cons_zero, List.set_cons_succ, List.length_cons, List.length_nil, Nat.zero_add, Nat.reduceAdd, Nat.reduceLeDiff, Nat.reduceLT, Option.bind_some, if_true, if_false, Bool.not_true, Bool.not_false, reduceCtorEq, Bool.false_eq_true, $xs,*] at $h:ident)
--XS}
/-! ### words -/
abbrev wds (x : Str) : List Str := Txt.split x sDot
theorem spl46 (acc r : List Nat) (c : Nat) : TL.spl [46] 0 acc (c :: r) = if c = 46 then acc :: TL.spl [46] 0 [] r else TL.spl [46] 0 (acc ++ [c]) r := by
  by_cases h : c = 46
  · rw [if_pos h, TL.spl_hit (by rw [h]; exact TL.pre_self [46] r)]; rfl
  · rw [if_neg h, TL.spl_miss (TL.pre_of_head _ _ h)]
theorem spl_ne : ∀ (l acc : List Nat), TL.spl [46] 0 acc l ≠ []
  | [], acc => by rw [TL.spl_nil]; simp
  | c :: r, acc => by
    rw [spl46]
    split
    · simp
    · exact spl_ne r _
theorem spl_ok : ∀ (l acc : List Nat), 46 ∉ acc → ∀ w ∈ TL.spl [46] 0 acc l, 46 ∉ w ∧ ∃ p s, acc ++ l = p ++ (w ++ s)
  | [], acc, h, w, hw => by
    rw [TL.spl_nil] at hw
    rw [List.mem_singleton.mp hw]
    exact ⟨h, [], [], by simp⟩
  | c :: r, acc, h, w, hw => by
    rw [spl46] at hw
    split at hw
    · rename_i hc
      rcases List.mem_cons.mp hw with rfl | hw
      · exact ⟨h, [], c :: r, by simp⟩
      · obtain ⟨h1, p, s, e⟩ := spl_ok r [] (by simp) w hw
        rw [List.nil_append] at e
        exact ⟨h1, acc ++ c :: p, s, by rw [e]; simp⟩
    · rename_i hc
      obtain ⟨h1, p, s, e⟩ := spl_ok r (acc ++ [c]) (by simp; exact ⟨h, fun q => hc q.symm⟩) w hw
      exact ⟨h1, p, s, by rw [← e]; simp⟩
theorem wds_cs (x : Str) : (wds x).map cs = TL.spl [46] 0 [] (cs x) := by
  have := TL.split_spl x sDot (by rw [show TL.tl sDot = [46] from cs_dot]; simp) (TL.kind_ok (by decide +kernel))
  rw [show TL.tl sDot = [46] from cs_dot] at this
  exact this
theorem wds_ne (x : Str) : wds x ≠ [] := fun h => spl_ne (cs x) [] (by rw [← wds_cs, h]; rfl)
theorem wds_in {x w : Str} (h : w ∈ wds x) : 46 ∉ cs w ∧ ∃ p s, cs x = p ++ (cs w ++ s) := by
  have h2 : cs w ∈ TL.spl [46] 0 [] (cs x) := by rw [← wds_cs]; exact List.mem_map.mpr ⟨w, h, rfl⟩
  obtain ⟨h1, p, s, e⟩ := spl_ok (cs x) [] (by simp) _ h2
  exact ⟨h1, p, s, by simpa using e⟩
theorem wds_join (x : Str) : Txt.join sDot (wds x) = x := by rw [TL.join_eq]; exact StrLaws.join_split x sDot
theorem wds_of {ps : List Str} (hne : ps ≠ []) (h : ∀ p ∈ ps, 46 ∉ cs p) : wds (Txt.join sDot ps) = ps := TL.split_join (s := 46) (S := []) cs_dot (by decide +kernel) hne h
/-- signs that are plain -/
def Asc (x : Str) : Prop := ∀ c ∈ cs x, c < 128
theorem Asc.ok {x : Str} (h : Asc x) : PyData.strOk x = true := ok_of h
theorem Asc.app {x y : Str} (h : Asc x) (h2 : Asc y) : Asc (x ++ y) := fun c hc => by
  rw [cs_app] at hc
  exact (List.mem_append.mp hc).elim (h c) (h2 c)
theorem Asc.wd {x w : Str} (h : Asc x) (hw : w ∈ wds x) : Asc w := fun c hc => by
  obtain ⟨_, p, s, e⟩ := wds_in hw
  exact h c (by rw [e]; simp [hc])
/-- no stretch without a dot is longer than k -/
def WB (k : Nat) (l : List Nat) : Prop := ∀ p m s, l = p ++ (m ++ s) → 46 ∉ m → m.length ≤ k
theorem WB.wd {k : Nat} {x w : Str} (h : WB k (cs x)) (hw : w ∈ wds x) : w.length ≤ k := by
  obtain ⟨h1, p, s, e⟩ := wds_in hw
  rw [cs_ln]; exact h p _ s e h1
theorem WB.mono {k j : Nat} {l : List Nat} (h : WB k l) (hk : k ≤ j) : WB j l := fun p m s e n => Nat.le_trans (h p m s e n) hk
theorem WB.len {l : List Nat} : WB l.length l := fun p m s e _ => by rw [e]; simp; omega
theorem WB.pre {k : Nat} {a b : List Nat} (h : WB k (a ++ b)) : WB k a := fun p m s e n => h p m (s ++ b) (by rw [e]; simp) n
theorem WB.suf {k : Nat} {a b : List Nat} (h : WB k (a ++ b)) : WB k b := fun p m s e n => h (a ++ p) m s (by rw [e]; simp) n
theorem WB.take {k : Nat} {l : List Nat} (h : WB k l) (n : Nat) : WB k (l.take n) := by rw [← List.take_append_drop n l] at h; exact h.pre
theorem WB.drop {k : Nat} {l : List Nat} (h : WB k l) (n : Nat) : WB k (l.drop n) := by rw [← List.take_append_drop n l] at h; exact h.suf
theorem app_cut {a b p q : List Nat} (e : a ++ b = p ++ q) : (∃ t, a = p ++ t ∧ q = t ++ b) ∨ ∃ t, p = a ++ t ∧ b = t ++ q := by
  rcases List.append_eq_append_iff.mp e with ⟨t, h1, h2⟩ | ⟨t, h1, h2⟩
  · exact .inr ⟨t, h1, h2⟩
  · exact .inl ⟨t, h1, h2⟩
theorem WB.app {j k : Nat} {a b : List Nat} (ha : WB j a) (hb : WB k b) : WB (j + k) (a ++ b) := fun p m s e n => by
  rcases app_cut e with ⟨t, h1, h2⟩ | ⟨t, h1, h2⟩
  · rcases app_cut h2 with ⟨u, h3, h4⟩ | ⟨u, h3, h4⟩
    · have l1 := ha p t [] (by rw [h1]; simp) (fun q => n (by rw [h3]; simp [q]))
      have l2 := hb [] u s (by simpa using h4) (fun q => n (by rw [h3]; simp [q]))
      rw [h3, List.length_append]; omega
    · have l1 := ha p m u (by rw [h1, h3]) n
      omega
  · have := hb t m s h2 n
    omega
theorem WB.dot {k : Nat} {a b : List Nat} (ha : WB k a) (hb : WB k b) : WB k (a ++ 46 :: b) := fun p m s e n => by
  rcases app_cut e with ⟨t, h1, h2⟩ | ⟨t, h1, h2⟩
  · rcases app_cut h2 with ⟨u, h3, h4⟩ | ⟨u, h3, h4⟩
    · cases u with
      | nil =>
        rw [List.append_nil] at h3
        exact ha p m [] (by rw [h1, h3]; simp) n
      | cons c u =>
        simp only [List.cons_append, List.cons.injEq] at h4
        exact absurd (show 46 ∈ m by rw [h3, h4.1]; simp) n
    · exact ha p m u (by rw [h1, h3]) n
  · cases t with
    | nil =>
      cases m with
      | nil => simp
      | cons c m =>
        simp only [List.nil_append, List.cons_append, List.cons.injEq] at h2
        exact absurd (show 46 ∈ c :: m by rw [← h2.1]; simp) n
    | cons c t =>
      simp only [List.cons_append, List.cons.injEq] at h2
      exact hb t m s h2.2 n
theorem WB.joins {k : Nat} : ∀ {ps : List (List Nat)}, (∀ p ∈ ps, p.length ≤ k) → WB k (TL.joinL [46] ps)
  | [], _ => WB.mono WB.len (by simp [TL.joinL])
  | [p], h => WB.mono WB.len (h p (by simp))
  | p :: q :: r, h => by
    have h1 := WB.mono (WB.len (l := p)) (h p (by simp))
    have h2 := WB.joins (ps := q :: r) fun z hz => h z (List.mem_cons_of_mem _ hz)
    exact h1.dot h2
theorem joins_mem {z : Nat} : ∀ {ps : List (List Nat)}, z ∈ TL.joinL [46] ps → z = 46 ∨ ∃ p ∈ ps, z ∈ p
  | [], h => by simp [TL.joinL] at h
  | [p], h => .inr ⟨p, by simp, h⟩
  | p :: q :: r, h => by
    have h : z ∈ p ++ ([46] ++ TL.joinL [46] (q :: r)) := h
    rcases List.mem_append.mp h with h | h
    · exact .inr ⟨p, by simp, h⟩
    · rcases List.mem_append.mp h with h | h
      · exact .inl (List.mem_singleton.mp h)
      · rcases joins_mem h with h | ⟨y, hy, hz⟩
        · exact .inl h
        · exact .inr ⟨y, List.mem_cons_of_mem _ hy, hz⟩
theorem joins_len {k : Nat} : ∀ {ps : List (List Nat)}, (∀ p ∈ ps, p.length ≤ k) → (TL.joinL [46] ps).length ≤ ps.length * (k + 1)
  | [], _ => by simp [TL.joinL]
  | [p], h => by have := h p (by simp); simp [TL.joinL]; omega
  | p :: q :: r, h => by
    have h1 := h p (by simp)
    have h2 := joins_len (ps := q :: r) fun z hz => h z (List.mem_cons_of_mem _ hz)
    show (p ++ ([46] ++ TL.joinL [46] (q :: r))).length ≤ _
    rw [List.length_append, List.length_append, List.length_cons (a := p), Nat.succ_mul]
    simp only [List.length_cons, List.length_nil] at h2 ⊢
    omega
theorem barTx_wb {n : Nat} {b : Bar} (h : GoodB n b) : WB 8 (cs (barTx b)) := by
  unfold barTx
  rw [cs_join, cs_dot]
  refine WB.joins fun p hp => ?_
  obtain ⟨x, hx, rfl⟩ := List.mem_map.mp hp
  obtain ⟨s, hs, rfl⟩ := List.mem_map.mp hx
  rw [← cs_ln]; exact stepTx_len (h.2 s hs)
theorem barTx_asc {n : Nat} {b : Bar} (h : GoodB n b) : Asc (barTx b) := fun c hc => by
  unfold barTx at hc
  rw [cs_join, cs_dot] at hc
  rcases joins_mem hc with rfl | ⟨p, hp, hc⟩
  · omega
  · obtain ⟨x, hx, rfl⟩ := List.mem_map.mp hp
    obtain ⟨s, hs, rfl⟩ := List.mem_map.mp hx
    exact (stepTx_asc (h.2 s hs) c hc).1
theorem barTx_len {n : Nat} {b : Bar} (h : GoodB n b) (hn : n ≤ 16) : (barTx b).length ≤ 144 := by
  have := joins_len (k := 8) (ps := (b.items.map stepTx).map cs) fun p hp => by
    obtain ⟨x, hx, rfl⟩ := List.mem_map.mp hp
    obtain ⟨s, hs, rfl⟩ := List.mem_map.mp hx
    rw [← cs_ln]; exact stepTx_len (h.2 s hs)
  unfold barTx
  rw [cs_ln, cs_join, cs_dot]
  rw [List.length_map, List.length_map, h.1] at this
  omega
theorem barTx_wds {n : Nat} {b : Bar} (h : GoodB n b) (h1 : 1 ≤ n) : wds (barTx b) = b.items.map stepTx := wds_of (fun e => by
  have := congrArg List.length e
  rw [List.length_map, h.1] at this; simp at this; omega) fun p hp => by
    obtain ⟨s, hs, rfl⟩ := List.mem_map.mp hp
    exact fun q => (stepTx_asc (h.2 s hs) 46 q).2 rfl
/-! ### words as steps -/
def isDg (c : Nat) : Bool := decide (48 ≤ c ∧ c ≤ 55)
def dgs (w : Str) : List Int := (cs w).map fun c : Nat => (c : Int) - 48
def wDig (w : Str) : Bool := decide (w = sDash) || (cs w).all isDg
def stepOf (w : Str) : Step := if w = sDash then ⟨[]⟩ else ⟨dgs w⟩
def barOf (x : Str) : Bar := ⟨(wds x).map stepOf⟩
theorem isDg_fig (c : Nat) : decide (c ∈ cs sFig) = isDg c := decide_eq_decide.mpr mem_fig
theorem step_in_eq {w : Str} (hw : Asc w) (hz : w.length ≤ 1000000) (st : Sto) : fn_step_in [.str w] st = if wDig w = true then .ok (toD (stepOf w)) st else .err 5 st := by
  unfold wDig stepOf
  have hlz : w.length ≤ sizeLine := by rw [sizeLine_eq]; omega
  have hit : itemsOf (.str w) = some ((cs w).map fun c => .str (sg c)) := by
    show (if w.length ≤ sizeLine then some (signs w) else none) = _
    rw [if_pos hlz, signs_eq]
  have e2 : lc_step_in_2 [.val (.str w), .emp] st = .ok ((cs w).map fun c => .bool (isDg c)) st := by
    refine lc_all (fun c : Nat => PyData.str (sg c)) (cs w) (fun c => .bool (isDg c)) ?_ fun c hc => ⟨_, rfl, ?_⟩
    · simp_arith [hit]
    · rw [← isDg_fig]
      simp_arith [z_inS]
  have e3 := all_eq e2
  by_cases h : w = sDash
  · rw [if_pos (by simp [h]), if_pos h]
    refine fnB_rt ?_
    show b_step_in [.val (.str w), .emp] st = _
    unfold b_step_in
    have e0 : gEq (.str w) (.str (PySem.Str.ofString "-")) = some true := by rw [z_eqS hw.ok ok_dash, decide_eq_true h]
    simp_arith [e0]
    rfl
  · have e0 : gEq (.str w) (.str (PySem.Str.ofString "-")) = some false := by rw [z_eqS hw.ok ok_dash, decide_eq_false h]
    rw [decide_eq_false h, Bool.false_or, if_neg h]
    by_cases ha : (cs w).all isDg = true
    · rw [if_pos ha]
      rw [ha] at e3
      refine fnB_rt ?_
      show b_step_in [.val (.str w), .emp] st = _
      have e1 : lc_step_in_1 [.val (.str w), .emp] st = .ok ((cs w).map fun c : Nat => .int ((c : Int) - 48)) st := by
        refine lc_all (fun c : Nat => PyData.str (sg c)) (cs w) (fun c : Nat => .int ((c : Int) - 48)) ?_ fun c hc => ⟨_, rfl, ?_⟩
        · simp_arith [hit]
        · have hd : 48 ≤ c ∧ c ≤ 55 := by simpa [isDg] using List.all_eq_true.mp ha c hc
          simp_arith [int_sg hd]
      unfold b_step_in
      rw [x_callG, x_cons] at e3
      simp_arith [e0, e3, e1, e2]
      simp_arith [e2] at e3
      simp_arith [e3, e1]
      show SO.rt (.tuple _) st = SO.rt (.tuple ((dgs w).map PyData.int)) st
      unfold dgs
      rw [List.map_map]; rfl
    · rw [if_neg ha]
      have ha : (cs w).all isDg = false := by simpa using ha
      rw [ha] at e3
      refine fnB_err (ρ := [.val (.str w), .emp]) ?_
      show b_step_in [.val (.str w), .emp] st = _
      unfold b_step_in
      simp_arith [e2] at e3
      simp_arith [e0, e2, e3]
end BF

/-! BP27: plain: texts of bars: which texts are read. -/
namespace BF
open PySem L2 PySem.W R
--XS{
local macro_rules | `(tactic| simp_arith [$xs,*]) => `(tactic| simp only [x_seq, SO.thn_nx, SO.thn_rt, SO.thn_err, SO.ofE_ok, SO.ofE_err, EO.bnd_ok, EO.bnd_err, EO.ofO_some, x_set, x_tp, x_ret, x_drop, x_if, x_skip, x_raise, x_own, x_new0, x_ice, x_iceO, x_iceV, x_var, x_c, x_lift1, x_lift2, x_liftT, x_tv, x_tru, x_not, x_and, x_or, x_ite, x_bV, x_nil, x_cons, x_call, x_callG, x_lst, x_tup, x_chk, x_walk, x_addL, x_methS, x_noP, x_someP, x_sl, x_ss, x_ssX, x_up, x_appU, x_extU, x_par, x_if1, x_if0, x_lcE, x_for, x_setN, x_setT, x_sa0, x_saS, x_wipe0, x_wipeS, x_keep, z_addI, z_sub, z_lenL, z_lenT, z_tupL, z_itemsL, z_itemsT, z_truB, z_isStr, Nat.zero_le, z_gtI, z_isN, z_eqI, z_neI, List.getElem?_cons_zero, List.getElem?_cons_succ, List.set_cons_zero, List.set_cons_succ, List.length_cons, List.length_nil, Nat.zero_add, Nat.reduceAdd, Nat.reduceLeDiff, Nat.reduceLT, Option.bind_some, if_true, if_false, Bool.not_true, Bool.not_false, reduceCtorEq, Bool.false_eq_true, $xs,*])
local macro_rules | `(tactic| simp_arith [$xs,*] at $h:ident) => `(tactic| simp only [x_seq, SO.thn_nx, SO.thn_rt, SO.thn_err, SO.ofE_ok, SO.ofE_err, EO.bnd_ok, EO.bnd_err, EO.ofO_some, x_set, x_tp, x_ret, x_drop, x_if, x_skip, x_raise, x_own, x_new0, x_ice, x_iceO, x_iceV, x_var, x_c, x_lift1, x_lift2, x_liftT, x_tv, x_tru, x_not, x_and, x_or, x_ite, x_bV, x_nil, x_cons, x_call, x_callG, x_lst, x_tup, x_chk, x_walk, x_addL, x_methS, x_noP, x_someP, x_sl, x_ss, x_ssX, x_up, x_appU, x_extU, x_par, x_if1, x_if0, x_lcE, x_for, x_setN, x_setT, x_sa0, x_saS, x_wipe0, x_wipeS, x_keep, z_addI, z_sub, z_lenL, z_lenT, z_tupL, z_itemsL, z_itemsT, z_truB, z_isStr, Nat.zero_le, z_gtI, z_isN, z_eqI, z_neI, List.getElem?_cons_zero, List.getElem?_cons_succ, List.set_cons_zero, List.set_cons_succ, List.length_cons, List.length_nil, Nat.zero_add, Nat.reduceAdd, Nat.reduceLeDiff, Nat.reduceLT, Option.bind_some, if_true, if_false, Bool.not_true, Bool.not_false, reduceCtorEq, Bool.false_eq_true, $xs,*] at $h:ident)
--XS}
theorem lcE_if {tg : Tgt} {te : EF} {β : Type} {ρ : Slots} {st : Sto} {c : Nat} (enc f : β → D) (p : β → Bool) : ∀ (xs : List β) (acc : List D), (∀ x ∈ xs, ∃ ρ', tg.set (enc x) ρ = some ρ' ∧ te ρ' st = if p x = true then .ok (f x) st else .err c st) →
    lcLoopE tg te (xs.map enc) ρ st acc = if xs.all p = true then .ok (acc ++ xs.map f) st else .err c st
  | [], acc, _ => by simp [lcLoopE]
  | x :: xs, acc, h => by
    obtain ⟨ρ', h1, h2⟩ := h x (by simp)
    rw [List.map_cons]
    unfold lcLoopE
    rw [h1]
    simp only [h2]
    by_cases hp : p x = true
    · rw [if_pos hp, EO.bnd_ok, lcE_if enc f p xs _ fun y hy => h y (List.mem_cons_of_mem _ hy), List.all_cons, hp, Bool.true_and]
      simp
    · rw [if_neg hp, EO.bnd_err, List.all_cons, show p x = false by simpa using hp, Bool.false_and]; rfl
/-! ### good steps by their signs -/
theorem stepB_good {s : Step} (h : stepB (toD s) = true) : GoodS s := by
  have h : ((s.items.map PyData.int).all (isW 0 7) && (match isIntss (s.items.map PyData.int) with
    | some ns => decide (setU ltI ns = ns)
    | none => false)) = true := h
  rw [isIntss_of] at h
  simp only [Bool.and_eq_true, decide_eq_true_eq, List.all_map, List.all_eq_true, Function.comp] at h
  refine ⟨?_, fun m hm => ?_⟩
  · have := setU_up sto_int (l := s.items)
    rw [h.2] at this
    exact this.imp fun {a b} q => by simpa [ltI] using q
  · have := h.1 m hm
    simpa [isW] using this
theorem barB_good {b : Bar} (h : barB (toD b) = true) : GoodB b.items.length b ∧ 1 ≤ b.items.length ∧ b.items.length ≤ 16 := by
  have h : (decide (1 ≤ (b.items.map fun s : Step => toD s).length ∧ (b.items.map fun s : Step => toD s).length ≤ 16) && (b.items.map fun s : Step => toD s).all stepB) = true := h
  simp only [Bool.and_eq_true, decide_eq_true_eq, List.length_map, List.all_map, List.all_eq_true, Function.comp] at h
  exact ⟨⟨rfl, fun s hs => stepB_good (h.2 s hs)⟩, h.1⟩
theorem dom_step {s : Step} (h : s.items.length ≤ 60) : stepDom (toD s) = true := by
  show (decide ((s.items.map PyData.int).length ≤ 60) && (s.items.map PyData.int).all fun x => !isDc x) = true
  simp [h, isDc]
theorem dom_bar {b : Bar} (h : ∀ s ∈ b.items, s.items.length ≤ 60) : barDom (toD b) = true := by
  show (!decide _ || (b.items.map fun s : Step => toD s).all stepDom) = true
  rw [show (b.items.map fun s : Step => toD s).all stepDom = true by
    rw [List.all_map, List.all_eq_true]; exact fun s hs => dom_step (h s hs)]
  simp
/-! ### which texts are a bar's -/
def okW (w : Str) : Bool := decide (w = sDash) || (decide (cs w ≠ []) && ((cs w).all isDg && decide ((cs w).Pairwise (· < ·))))
def isTx (x : Str) : Bool := decide ((wds x).length ≤ 16) && (wds x).all okW
theorem okW_dig {w : Str} (h : okW w = true) : wDig w = true := by
  unfold okW at h; unfold wDig
  simp only [Bool.or_eq_true, Bool.and_eq_true] at h ⊢
  exact h.imp id fun h => h.2.1
theorem dig_range {w : Str} (h : (cs w).all isDg = true) {c : Nat} (hc : c ∈ cs w) : 48 ≤ c ∧ c ≤ 55 := by simpa [isDg] using List.all_eq_true.mp h c hc
theorem dgs_back {w : Str} (h : (cs w).all isDg = true) : (dgs w).map (fun m => 48 + m.toNat) = cs w := by
  unfold dgs
  rw [List.map_map]
  have : ∀ l : List Nat, (∀ c ∈ l, 48 ≤ c) → l.map ((fun m : Int => 48 + m.toNat) ∘ fun c : Nat => (c : Int) - 48) = l := by
    intro l
    induction l with
    | nil => exact fun _ => rfl
    | cons c l ih =>
      intro hl
      have := hl c (by simp)
      rw [List.map_cons, ih fun d hd => hl d (List.mem_cons_of_mem _ hd)]
      congr 1
      show 48 + ((c : Int) - 48).toNat = c
      omega
  exact this _ fun c hc => (dig_range h hc).1
theorem okW_back {w : Str} (h : okW w = true) : stepTx (stepOf w) = w ∧ GoodS (stepOf w) := by
  unfold stepOf
  by_cases e : w = sDash
  · rw [if_pos e]
    exact ⟨by unfold stepTx; rw [if_pos rfl, e], .nil, fun m hm => by simp at hm⟩
  · rw [if_neg e]
    unfold okW at h
    rw [decide_eq_false e, Bool.false_or] at h
    simp only [Bool.and_eq_true, decide_eq_true_eq] at h
    obtain ⟨h1, h2, h3⟩ := h
    refine ⟨?_, ?_, fun m hm => ?_⟩
    · unfold stepTx
      rw [if_neg (show (⟨dgs w⟩ : Step).items ≠ [] from fun q => h1 (List.map_eq_nil_iff.mp q)), dgs_back h2, ofC_cs]
    · show (dgs w).Pairwise (· < ·)
      unfold dgs
      rw [List.pairwise_map]
      exact h3.imp fun {a b} q => by omega
    · obtain ⟨c, hc, rfl⟩ := List.mem_map.mp (show m ∈ (cs w).map _ from hm)
      have := dig_range h2 hc
      omega
theorem wds_pos (x : Str) : 1 ≤ (wds x).length := List.length_pos_iff.mpr (wds_ne x)
theorem isTx_good {x : Str} (h : isTx x = true) : GoodB (wds x).length (barOf x) ∧ (wds x).length ≤ 16 ∧ barTx (barOf x) = x := by
  unfold isTx at h
  simp only [Bool.and_eq_true, decide_eq_true_eq, List.all_eq_true] at h
  refine ⟨⟨by unfold barOf; rw [List.length_map], fun s hs => ?_⟩, h.1, ?_⟩
  · obtain ⟨w, hw, rfl⟩ := List.mem_map.mp hs
    exact (okW_back (h.2 w hw)).2
  · unfold barTx barOf
    rw [List.map_map]
    have : (wds x).map (stepTx ∘ stepOf) = wds x := by
      conv => rhs; rw [← List.map_id (wds x)]
      exact List.map_congr_left fun w hw => (okW_back (h.2 w hw)).1
    rw [this, wds_join]
theorem map_fix {α : Type} {f : α → α} : ∀ {l : List α}, l.map f = l → ∀ a ∈ l, f a = a
  | [], _, a, h => by simp at h
  | x :: l, e, a, h => by
    rw [List.map_cons, List.cons.injEq] at e
    rcases List.mem_cons.mp h with rfl | h
    · exact e.1
    · exact map_fix e.2 a h
theorem isTx_of {x : Str} (hd : (wds x).all wDig = true) (hb : barB (toD (barOf x)) = true) (hx : barTx (barOf x) = x) : isTx x = true := by
  obtain ⟨g, g1, g2⟩ := barB_good hb
  have e := barTx_wds g g1
  rw [hx] at e
  have hf : (wds x).map (stepTx ∘ stepOf) = wds x := by
    rw [← List.map_map]; exact e.symm
  have hl : (wds x).length ≤ 16 := by
    have : (barOf x).items.length = (wds x).length := by unfold barOf; rw [List.length_map]
    omega
  unfold isTx
  rw [decide_eq_true hl, Bool.true_and, List.all_eq_true]
  intro w hw
  have h1 := map_fix hf w hw
  have h2 : GoodS (stepOf w) := g.2 _ (List.mem_map.mpr ⟨w, hw, rfl⟩)
  have h3 := List.all_eq_true.mp hd w hw
  unfold okW
  by_cases q : w = sDash
  · simp [q]
  · unfold wDig at h3
    rw [decide_eq_false q, Bool.false_or] at h3
    have e1 : stepOf w = ⟨dgs w⟩ := by unfold stepOf; rw [if_neg q]
    have hne : cs w ≠ [] := fun z => by
      rw [Function.comp, e1] at h1
      have : dgs w = [] := by unfold dgs; rw [z]; rfl
      rw [this] at h1
      exact q h1.symm
    have hp : (cs w).Pairwise (· < ·) := by
      have := h2.1
      rw [e1] at this
      have : ((cs w).map fun c : Nat => (c : Int) - 48).Pairwise (· < ·) := this
      rw [List.pairwise_map] at this
      exact this.imp fun {a b} q => by omega
    rw [decide_eq_false q, Bool.false_or, decide_eq_true hne, h3, decide_eq_true hp]; rfl
theorem gSplit_eq {x : Str} (hz : x.length ≤ 1000000) : gSplit (.str x) (.str (PySem.Str.ofString ".")) = some ((wds x).map .str) := by
  show (if _ then _ else _) = _
  rw [if_pos ⟨by decide +kernel, by rw [sizeLine_eq]; omega⟩]
theorem read_eq {x : Str} (hx : Asc x) (hz : x.length ≤ 1000000) (hw : WB 60 (cs x)) (st : Sto) : fn_read [.str x] st = if isTx x = true then .ok (toD (barOf x)) st else .err 5 st := by
  have hwl : ∀ w ∈ wds x, w.length ≤ 60 := fun w h => hw.wd h
  have e1 : isStr (.str x) = true := rfl
  have lc : lc_read_1 [.val (.str x), .emp, .emp] st = if (wds x).all wDig = true then .ok ((wds x).map fun w => toD (stepOf w)) st else .err 5 st := by
    unfold lc_read_1
    simp_arith [e1, gSplit_eq hz]
    have := lcE_if (tg := .nm 2) (te := callF 1 fn_step_in (aCons (eVar 2) aNil)) (ρ := [.val (.str x), .emp, .emp]) (st := st) (c := 5) PyData.str (fun w => toD (stepOf w)) wDig (wds x) [] fun w h => ⟨_, rfl, by
      have := step_in_eq (hx.wd h) (by have := hwl w h; omega) st
      simp_arith [this]⟩
    rw [this]; rfl
  by_cases hd : (wds x).all wDig = true
  · rw [if_pos hd] at lc
    have hdom : barDom (toD (barOf x)) = true := dom_bar fun s hs => by
      obtain ⟨w, hw, rfl⟩ := List.mem_map.mp hs
      unfold stepOf
      split
      · simp
      · show (dgs w).length ≤ 60
        unfold dgs
        rw [List.length_map, ← cs_ln]; exact hwl w hw
    have hbar := is_bar_eq (st := st) hdom
    have e2 : PyData.tuple ((wds x).map fun w => toD (stepOf w)) = toD (barOf x) := by
      show _ = PyData.tuple (((wds x).map stepOf).map fun s : Step => toD s)
      rw [List.map_map]; rfl
    by_cases hb : barB (toD (barOf x)) = true
    · obtain ⟨g, g1, g2⟩ := barB_good hb
      have ht := bar_text_eq g g2 st
      have hne := z_neS (x := barTx (barOf x)) (y := x) (barTx_asc g).ok hx.ok
      rw [hb] at hbar
      by_cases hq : barTx (barOf x) = x
      · rw [if_pos (isTx_of hd hb hq)]
        rw [decide_eq_true hq] at hne
        refine fnB_rt ?_
        show b_read [.val (.str x), .emp, .emp] st = _
        unfold b_read
        simp_arith [lc, e2, hbar, ht, hne]
      · rw [if_neg (fun z => hq (isTx_good z).2.2)]
        rw [decide_eq_false hq] at hne
        refine fnB_err (ρ := [.val (.str x), .val (toD (barOf x)), .emp]) ?_
        show b_read [.val (.str x), .emp, .emp] st = _
        unfold b_read
        simp_arith [lc, e2, hbar, ht, hne]
    · have hn : isTx x ≠ true := fun z => by
        obtain ⟨g, g2, _⟩ := isTx_good z
        exact hb (g.barB (wds_pos x) g2).1
      rw [if_neg hn]
      have hb : barB (toD (barOf x)) = false := by simpa using hb
      rw [hb] at hbar
      refine fnB_err (ρ := [.val (.str x), .val (toD (barOf x)), .emp]) ?_
      show b_read [.val (.str x), .emp, .emp] st = _
      unfold b_read
      simp_arith [lc, e2, hbar]
  · rw [if_neg hd] at lc
    have hn : isTx x ≠ true := fun z => by
      unfold isTx at z
      simp only [Bool.and_eq_true, List.all_eq_true] at z
      exact hd (List.all_eq_true.mpr fun w hw => okW_dig (z.2 w hw))
    rw [if_neg hn]
    refine fnB_err (ρ := [.val (.str x), .emp, .emp]) ?_
    show b_read [.val (.str x), .emp, .emp] st = _
    unfold b_read
    simp_arith [lc]
end BF

/-! BP28: plain: texts of bars: the law's own reading. -/
namespace BF
open PySem L2 PySem.W R
--XS{
local macro_rules | `(tactic| simp_arith [$xs,*]) => `(tactic| simp only [x_seq, SO.thn_nx, SO.thn_rt, SO.thn_err, SO.ofE_ok, SO.ofE_err, EO.bnd_ok, EO.bnd_err, EO.ofO_some, x_set, x_tp, x_ret, x_drop, x_if, x_skip, x_raise, x_own, x_new0, x_ice, x_iceO, x_iceV, x_var, x_c, x_lift1, x_lift2, x_liftT, x_tv, x_tru, x_not, x_and, x_or, x_ite, x_bV, x_nil, x_cons, x_call, x_callG, x_lst, x_tup, x_chk, x_walk, x_addL, x_methS, x_noP, x_someP, x_sl, x_ss, x_ssX, x_up, x_appU, x_extU, x_par, x_if1, x_if0, x_lcE, x_for, x_setN, x_setT, x_sa0, x_saS, x_wipe0, x_wipeS, x_keep, z_addI, z_sub, z_lenL, z_lenT, z_tupL, z_itemsL, z_itemsT, z_truB, z_isStr, Nat.zero_le, z_gtI, z_isN, z_eqI, z_neI, List.getElem?_cons_zero, List.getElem?_cons_succ, List.set_cons_zero, List.set_cons_succ, List.length_cons, List.length_nil, Nat.zero_add, Nat.reduceAdd, Nat.reduceLeDiff, Nat.reduceLT, Option.bind_some, if_true, if_false, Bool.not_true, Bool.not_false, reduceCtorEq, Bool.false_eq_true, $xs,*])
local macro_rules | `(tactic| simp_arith [$xs,*] at $h:ident) => `(tactic| simp only [x_seq, SO.thn_nx, SO.thn_rt, SO.thn_err, SO.ofE_ok, SO.ofE_err, EO.bnd_ok, EO.bnd_err, EO.ofO_some, x_set, x_tp, x_ret, x_drop, x_if, x_skip, x_raise, x_own, x_new0, x_ice, x_iceO, x_iceV, x_var, x_c, x_lift1, x_lift2, x_liftT, x_tv, x_tru, x_not, x_and, x_or, x_ite, x_bV, x_nil, x_cons, x_call, x_callG, x_lst, x_tup, x_chk, x_walk, x_addL, x_methS, x_noP, x_someP, x_sl, x_ss, x_ssX, x_up, x_appU, x_extU, x_par, x_if1, x_if0, x_lcE, x_for, x_setN, x_setT, x_sa0, x_saS, x_wipe0, x_wipeS, x_keep, z_addI, z_sub, z_lenL, z_lenT, z_tupL, z_itemsL, z_itemsT, z_truB, z_isStr, Nat.zero_le, z_gtI, z_isN, z_eqI, z_neI, List.getElem?_cons_zero, List.getElem?_cons_succ, List.set_cons_zero, List.set_cons_succ, List.length_cons, List.length_nil, Nat.zero_add, Nat.reduceAdd, Nat.reduceLeDiff, Nat.reduceLT, Option.bind_some, if_true, if_false, Bool.not_true, Bool.not_false, reduceCtorEq, Bool.false_eq_true, $xs,*] at $h:ident)
--XS}
/-! ### signs in order, each once -/
theorem sg_inj {a b : Nat} (h : sg a = sg b) : a = b := by
  have := congrArg cs h
  simpa using this
def ltN (a b : Nat) : Bool := decide (a < b)
theorem sto_nat : STO ltN := ⟨fun a => by simp [ltN], fun a b c => by simp only [ltN, decide_eq_true_eq]; omega, fun a b => by simp only [ltN, decide_eq_true_eq]; omega⟩
theorem ltS_sg (a b : Nat) : ltS (sg a) (sg b) = ltN a b := by
  unfold ltS ltN
  apply decide_eq_decide.mpr
  show [a] < [b] ↔ a < b
  rw [List.cons_lt_cons_iff]
  simp
theorem insU_sg (a : Nat) : ∀ l : List Nat, insU ltS (sg a) (l.map sg) = (insU ltN a l).map sg
  | [] => rfl
  | b :: l => by
    rw [List.map_cons]
    unfold insU
    rw [ltS_sg, insU_sg a l]
    by_cases h1 : ltN a b = true
    · rw [if_pos h1, if_pos h1]; rfl
    · rw [if_neg h1, if_neg h1]
      by_cases h2 : a = b
      · rw [if_pos (by rw [h2]), if_pos h2]; rfl
      · rw [if_neg (fun q => h2 (sg_inj q)), if_neg h2]; rfl
theorem setU_sg : ∀ l : List Nat, setU ltS (l.map sg) = (setU ltN l).map sg
  | [] => rfl
  | a :: l => by
    show insU ltS (sg a) (setU ltS (l.map sg)) = (insU ltN a (setU ltN l)).map sg
    rw [setU_sg l, insU_sg]
theorem setU_iff (l : List Nat) : setU ltN l = l ↔ l.Pairwise (· < ·) := by
  constructor
  · intro h
    have := setU_up sto_nat (l := l)
    rw [h] at this
    exact this.imp fun {a b} q => by simpa [ltN] using q
  · intro h
    exact (setU_of sto_nat (h.imp fun {a b} q => by simpa [ltN] using q) fun z => Iff.rfl).symm
theorem setX_str {w : Str} (h : w.length ≤ 4000) : gSortSetX (.str w) = some ((setU ltN (cs w)).map fun c => .str (sg c)) := by
  show (if _ then _ else _) = _
  rw [if_pos h, setU_sg, List.map_map]; rfl
theorem setX_lst {l : List Nat} (h : l.length ≤ 4000) : gSortSetX (.list (l.map fun c => .str (sg c))) = some ((setU ltN l).map fun c => .str (sg c)) := by
  have : (l.map fun c => PyData.str (sg c)) = (l.map sg).map PyData.str := by rw [List.map_map]; rfl
  rw [this]
  simp only [gSortSetX, isStrs_of, List.length_map]
  rw [if_pos h, setU_sg, List.map_map]; rfl
/-! ### loops that may end with an answer -/
theorem for_if {t : Tgt} {body : SF} {β : Type} {st : Sto} {d : D} (enc : β → D) (p : β → Bool) (I : Nat → Slots → Prop) : ∀ (xs : List β) (n : Nat) (ρ : Slots), I n ρ →
    (∀ (m : Nat) (x : β) (ρ : Slots), xs[m]? = some x → I (n + m) ρ → ∃ ρ1, t.set (enc x) ρ = some ρ1 ∧ if p x = true then ∃ ρ', body ρ1 st = .nx ρ' st ∧ I (n + m + 1) ρ' else body ρ1 st = .rt d st) →
    if xs.all p = true then ∃ ρ', forLoop t body (xs.map enc) ρ st = .nx ρ' st ∧ I (n + xs.length) ρ' else forLoop t body (xs.map enc) ρ st = .rt d st
  | [], n, ρ, h, _ => by
    rw [if_pos (by rfl)]
    exact ⟨ρ, rfl, h⟩
  | x :: xs, n, ρ, h, hb => by
    obtain ⟨ρ1, h1, h2⟩ := hb 0 x ρ rfl h
    rw [List.map_cons, x_loopC, h1]
    by_cases hp : p x = true
    · rw [if_pos hp] at h2
      obtain ⟨ρ', h3, h4⟩ := h2
      simp only [h3]
      have ih := for_if (t := t) (body := body) (st := st) (d := d) enc p I xs (n + 1) ρ' h4 fun m y ρ hy hI => by
        have := hb (m + 1) y ρ (by simpa using hy) (by rw [show n + (m + 1) = n + 1 + m by omega]; exact hI)
        rw [show n + (m + 1) = n + 1 + m by omega] at this
        exact this
      rw [List.all_cons, hp, Bool.true_and, List.length_cons, show n + (xs.length + 1) = n + 1 + xs.length by omega]
      exact ih
    · rw [if_neg hp] at h2
      rw [List.all_cons, show p x = false by simpa using hp, Bool.false_and, if_neg (by simp)]
      simp only [h2]
theorem z_itS {w : Str} (h : w.length ≤ 16777216) : itemsOf (.str w) = some ((cs w).map fun c => .str (sg c)) := by
  show (if w.length ≤ sizeLine then some (signs w) else none) = _
  rw [if_pos (by rw [sizeLine_eq]; exact h), signs_eq]
theorem shaped_l0 : SeqAt.shaped (.list []) = true := by decide +kernel
theorem canLay_strs : ∀ {l : List Str}, (∀ x ∈ l, PyData.strOk x = true) → PyData.canLayAll0 (l.map .str) = true
  | [], _ => rfl
  | x :: l, h => by
    show (PyData.strOk x && PyData.canLayAll0 (l.map .str)) = true
    rw [h x (by simp), canLay_strs fun y hy => h y (List.mem_cons_of_mem _ hy)]; rfl
theorem depth_strs : ∀ l : List Str, PyData.depthAll (l.map .str) = 0
  | [] => rfl
  | x :: l => by
    show max 0 (PyData.depthAll (l.map .str)) = 0
    rw [depth_strs l]; rfl
theorem shaped_strs {l : List Str} (h : ∀ x ∈ l, PyData.strOk x = true) : SeqAt.shaped (.list (l.map .str)) = true := by
  unfold SeqAt.shaped
  show (PyData.canLayAll0 (l.map .str) && decide (PyData.depthAll (l.map .str) + 1 ≤ 64)) = true
  rw [canLay_strs h, depth_strs]; rfl
theorem z_neL {a b : List Str} (ha : ∀ x ∈ a, PyData.strOk x = true) (hb : ∀ x ∈ b, PyData.strOk x = true) : gNe (.list (a.map .str)) (.list (b.map .str)) = some (!decide (a = b)) := by
  show (if _ then _ else _) = _
  rw [shaped_strs ha, shaped_strs hb, show PyData.eqv (.list (a.map .str)) (.list (b.map .str)) = decide (a = b) from Datum.eqv a b]; rfl
theorem z_neL0 {l : List Nat} (h : ∀ c ∈ l, c < 128) : gNe (.list (l.map fun c => .str (sg c))) (.list []) = some (!decide (l = [])) := by
  have := z_neL (a := l.map sg) (b := []) (fun x hx => by
    obtain ⟨c, hc, rfl⟩ := List.mem_map.mp hx
    exact ok_of fun d hd => by rw [show d = c by simpa using hd]; exact h c hc) (by simp)
  rw [List.map_map] at this
  rw [show (l.map fun c => PyData.str (sg c)) = l.map (PyData.str ∘ sg) from rfl]
  refine this.trans ?_
  congr 2
  exact decide_eq_decide.mpr List.map_eq_nil_iff
theorem z_neL2 {a b : List Nat} (h : ∀ c ∈ a, c < 128) (h2 : ∀ c ∈ b, c < 128) : gNe (.list (a.map fun c => .str (sg c))) (.list (b.map fun c => .str (sg c))) = some (!decide (a = b)) := by
  have one : ∀ l : List Nat, (∀ c ∈ l, c < 128) → ∀ x ∈ l.map sg, PyData.strOk x = true := fun l h x hx => by
    obtain ⟨c, hc, rfl⟩ := List.mem_map.mp hx
    exact ok_of fun d hd => by rw [show d = c by simpa using hd]; exact h c hc
  have := z_neL (one a h) (one b h2)
  rw [List.map_map, List.map_map] at this
  refine this.trans ?_
  congr 2
  refine decide_eq_decide.mpr ⟨fun q => ?_, fun q => by rw [q]⟩
  have := congrArg (List.map fun x : Str => cs x) q
  rw [List.map_map, List.map_map] at this
  have inj : ∀ a b : List Nat, a.map ((fun x : Str => cs x) ∘ sg) = b.map ((fun x : Str => cs x) ∘ sg) → a = b := by
    intro a
    induction a with
    | nil => intro b hb; cases b with
      | nil => rfl
      | cons y b => cases hb
    | cons x a ih => intro b hb; cases b with
      | nil => cases hb
      | cons y b =>
        simp only [List.map_cons, List.cons.injEq, Function.comp] at hb
        rw [ih b hb.2, sg_inj (cs_ext hb.1)]
  exact inj a b this
/-- a word's odd signs -/
theorem odd_nil {w : Str} : (cs w).filter (fun c => !isDg c) = [] ↔ (cs w).all isDg = true := by
  rw [List.filter_eq_nil_iff, List.all_eq_true]
  simp
theorem join_w {l : List Nat} (h : l.length ≤ 4000) : gJoin (.str (PySem.Str.ofString "")) (.list (l.map fun c => .str (sg c))) = some (.str (ofC l)) := by
  rw [show (l.map fun c => PyData.str (sg c)) = (l.map sg).map PyData.str by rw [List.map_map]; rfl, z_join, join_sg]
  have := sum_le (f := fun x : Str => x.length) (k := 1) (l := l.map sg) (fun x hx => by
    obtain ⟨m, _, rfl⟩ := List.mem_map.mp hx
    exact Nat.le_refl 1)
  rw [List.length_map] at this ⊢
  rw [cs_ln (PySem.Str.ofString ""), cs_emp]
  simp only [List.length_nil]; omega
theorem ofC_eq {l : List Nat} {w : Str} : ofC l = w ↔ l = cs w := ⟨fun h => by rw [← h], fun h => by rw [h, ofC_cs]⟩
theorem Asc.setU {w : Str} (h : Asc w) : ∀ c ∈ setU ltN (cs w), c < 128 := fun c hc => h c (mem_setU.mp hc)
theorem Asc.flt {w : Str} (h : Asc w) : ∀ c ∈ (cs w).filter (fun c => !isDg c), c < 128 := fun c hc => h c (List.mem_filter.mp hc).1
theorem emp_iff {w : Str} : w = PySem.Str.ofString "" ↔ cs w = [] := ⟨fun h => by rw [h, cs_emp], fun h => cs_ext (by rw [h, cs_emp])⟩
theorem ne_dash {w : Str} (hw : Asc w) : gNe (.str w) (.str (PySem.Str.ofString "-")) = some (!decide (w = sDash)) := z_neS hw.ok ok_dash
theorem eq_dash {w : Str} (hw : Asc w) : gEq (.str w) (.str (PySem.Str.ofString "-")) = some (decide (w = sDash)) := z_eqS hw.ok ok_dash
theorem eq_emp {w : Str} (hw : Asc w) : gEq (.str w) (.str (PySem.Str.ofString "")) = some (decide (cs w = [])) := (z_eqS hw.ok ok_emp).trans (by congr 1; exact decide_eq_decide.mpr emp_iff)
theorem is_text_word {x w : Str} {a : Slot} {ds : D} (hw : Asc w) (hz : w.length ≤ 1000) (st : Sto) :
    if okW w = true then bd__law_is_text_1 [.val (.str x), .val ds, .val (.str w), .emp] st = .nx [.val (.str x), .val ds, .val (.str w), .emp] st else bd__law_is_text_1 [.val (.str x), .val ds, .val (.str w), .emp] st = .rt (.bool false) st := by
  have hlc : lc__law_is_text_1 [.val (.str x), .val ds, .val (.str w), .emp] st = .ok (((cs w).filter fun c => !isDg c).map fun c => .str (sg c)) st := by
    refine lc_ok (fun c : Nat => PyData.str (sg c)) (cs w) (fun c => !isDg c) (fun c => .str (sg c)) ?_ fun c hc => ⟨_, rfl, ?_, fun _ => rfl⟩
    · simp_arith [z_itS (w := w) (by omega)]
    · rw [← isDg_fig]
      simp_arith [z_ninS]
  have h1 := z_neL0 hw.flt
  have h2 := setX_str (w := w) (by omega)
  have hsl : (setU ltN (cs w)).length ≤ 4000 := by
    have := @setU_len _ _ ltN (cs w)
    rw [cs_ln] at hz; omega
  have h3 := join_w hsl
  have h4 := z_neS (x := ofC (setU ltN (cs w))) (y := w) (ok_of hw.setU) hw.ok
  have e1 : isStr (.str (PySem.Str.ofString "")) = true := rfl
  unfold okW bd__law_is_text_1
  by_cases q : w = sDash
  · have hn := ne_dash hw
    rw [decide_eq_true q] at hn ⊢
    rw [Bool.true_or, if_pos rfl]
    simp_arith [hn]
  · have hn := ne_dash hw
    rw [decide_eq_false q] at hn ⊢
    rw [Bool.false_or]
    have he := eq_emp hw
    by_cases hc : cs w = []
    · rw [decide_eq_true hc] at he
      rw [decide_eq_false (by simp [hc]), Bool.false_and, if_neg (by simp)]
      simp_arith [hn, he]
    · rw [decide_eq_false hc] at he
      rw [decide_eq_true hc, Bool.true_and]
      by_cases hd : (cs w).all isDg = true
      · rw [odd_nil.mpr hd] at h1 hlc
        rw [hd, Bool.true_and]
        have h1 : gNe (.list []) (.list []) = some false := by simpa using h1
        have hlc : lc__law_is_text_1 [.val (.str x), .val ds, .val (.str w), .emp] st = .ok [] st := hlc
        by_cases hp : (cs w).Pairwise (· < ·)
        · rw [if_pos (decide_eq_true hp)]
          rw [decide_eq_true (ofC_eq.mpr ((setU_iff _).mpr hp))] at h4
          simp_arith [hn, he, hlc, h1, h2, h3, h4, Nat.zero_le]
        · rw [if_neg (by simp [hp])]
          rw [decide_eq_false (fun z => hp ((setU_iff _).mp (ofC_eq.mp z)))] at h4
          simp_arith [hn, he, hlc, h1, h2, h3, h4, Nat.zero_le]
      · rw [decide_eq_false (fun z => hd (odd_nil.mp z))] at h1
        rw [show (cs w).all isDg = false by simpa using hd, Bool.false_and, if_neg (by simp)]
        simp_arith [hn, he, hlc, h1, Nat.zero_le]
theorem is_text_eq {x : Str} (hx : Asc x) (hz : x.length ≤ 1000) (st : Sto) : fn__law_is_text [.str x] st = .ok (.bool (isTx x)) st := by
  refine fnB_rt ?_
  show b__law_is_text [.val (.str x), .emp, .emp, .emp] st = _
  unfold b__law_is_text
  have e1 : isStr (.str x) = true := rfl
  have hgt : gGt (.int ((wds x).map PyData.str).length) (.int 16) = some (decide ((wds x).length > 16)) := by
    rw [List.length_map]
    show some (decide ((16 : Int) < ((wds x).length : Int))) = _
    congr 1; exact decide_eq_decide.mpr (by omega)
  unfold isTx
  by_cases hl : (wds x).length ≤ 16
  · rw [decide_eq_false (by omega)] at hgt
    rw [decide_eq_true hl, Bool.true_and]
    have lp := for_if (t := .nm 2) (body := bd__law_is_text_1) (st := st) (d := .bool false) PyData.str okW (fun _ ρ => ∃ a, ρ = [.val (.str x), .val (.list ((wds x).map PyData.str)), a, .emp]) (wds x) 0 [.val (.str x), .val (.list ((wds x).map PyData.str)), .emp, .emp] ⟨_, rfl⟩ fun m w ρ hm ⟨a, e⟩ => by
      subst e
      refine ⟨_, rfl, ?_⟩
      have hw := List.mem_of_getElem? hm
      have hb := is_text_word (x := x) (w := w) (a := a) (ds := .list ((wds x).map PyData.str)) (hx.wd hw) ((WB.len (l := cs x)).wd hw |> fun h => by rw [cs_ln] at hz; omega) st
      by_cases hp : okW w = true
      · rw [if_pos hp] at hb ⊢
        exact ⟨_, hb, _, rfl⟩
      · rw [if_neg hp] at hb ⊢
        exact hb
    by_cases ha : (wds x).all okW = true
    · rw [if_pos ha] at lp
      obtain ⟨ρ', h1, a, rfl⟩ := lp
      have h2 : lp__law_is_text_1 [.val (.str x), .val (.list ((wds x).map PyData.str)), .emp, .emp] st = .nx [.val (.str x), .val (.list ((wds x).map PyData.str)), a, .emp] st := by
        unfold lp__law_is_text_1
        simp_arith [h1]
      simp_arith [e1, gSplit_eq (x := x) (by omega), hgt, h2, ha]
    · rw [if_neg ha] at lp
      have h2 : lp__law_is_text_1 [.val (.str x), .val (.list ((wds x).map PyData.str)), .emp, .emp] st = .rt (.bool false) st := by
        unfold lp__law_is_text_1
        simp_arith [lp]
      rw [show (wds x).all okW = false by simpa using ha]
      simp_arith [e1, gSplit_eq (x := x) (by omega), hgt, h2]
  · rw [decide_eq_true (by omega)] at hgt
    rw [decide_eq_false hl, Bool.false_and]
    simp_arith [e1, gSplit_eq (x := x) (by omega), hgt]
end BF

/-! BP29: plain: texts of bars: the law's other reading. -/
namespace BF
open PySem L2 PySem.W R
--XS{
local macro_rules | `(tactic| simp_arith [$xs,*]) => `(tactic| simp only [x_seq, SO.thn_nx, SO.thn_rt, SO.thn_err, SO.ofE_ok, SO.ofE_err, EO.bnd_ok, EO.bnd_err, EO.ofO_some, x_set, x_tp, x_ret, x_drop, x_if, x_skip, x_raise, x_own, x_new0, x_ice, x_iceO, x_iceV, x_var, x_c, x_lift1, x_lift2, x_liftT, x_tv, x_tru, x_not, x_and, x_or, x_ite, x_bV, x_nil, x_cons, x_call, x_callG, x_lst, x_tup, x_chk, x_walk, x_addL, x_methS, x_noP, x_someP, x_sl, x_ss, x_ssX, x_up, x_appU, x_extU, x_par, x_if1, x_if0, x_lcE, x_for, x_setN, x_setT, x_sa0, x_saS, x_wipe0, x_wipeS, x_keep, z_addI, z_sub, z_lenL, z_lenT, z_tupL, z_itemsL, z_itemsT, z_truB, z_isStr, Nat.zero_le, z_gtI, z_isN, z_eqI, z_neI, List.getElem?_cons_zero, List.getElem?_cons_succ, List.set_cons_zero, List.set_cons_succ, List.length_cons, List.length_nil, Nat.zero_add, Nat.reduceAdd, Nat.reduceLeDiff, Nat.reduceLT, Option.bind_some, if_true, if_false, Bool.not_true, Bool.not_false, reduceCtorEq, Bool.false_eq_true, $xs,*])
local macro_rules | `(tactic| simp_arith [$xs,*] at $h:ident) => `(tactic| simp only [x_seq, SO.thn_nx, SO.thn_rt, SO.thn_err, SO.ofE_ok, SO.ofE_err, EO.bnd_ok, EO.bnd_err, EO.ofO_some, x_set, x_tp, x_ret, x_drop, x_if, x_skip, x_raise, x_own, x_new0, x_ice, x_iceO, x_iceV, x_var, x_c, x_lift1, x_lift2, x_liftT, x_tv, x_tru, x_not, x_and, x_or, x_ite, x_bV, x_nil, x_cons, x_call, x_callG, x_lst, x_tup, x_chk, x_walk, x_addL, x_methS, x_noP, x_someP, x_sl, x_ss, x_ssX, x_up, x_appU, x_extU, x_par, x_if1, x_if0, x_lcE, x_for, x_setN, x_setT, x_sa0, x_saS, x_wipe0, x_wipeS, x_keep, z_addI, z_sub, z_lenL, z_lenT, z_tupL, z_itemsL, z_itemsT, z_truB, z_isStr, Nat.zero_le, z_gtI, z_isN, z_eqI, z_neI, List.getElem?_cons_zero, List.getElem?_cons_succ, List.set_cons_zero, List.set_cons_succ, List.length_cons, List.length_nil, Nat.zero_add, Nat.reduceAdd, Nat.reduceLeDiff, Nat.reduceLT, Option.bind_some, if_true, if_false, Bool.not_true, Bool.not_false, reduceCtorEq, Bool.false_eq_true, $xs,*] at $h:ident)
--XS}
abbrev sgs (l : List Nat) : List D := l.map fun c => .str (sg c)
theorem z_lstr {w : Str} (h : w.length ≤ 1000000) : gListStr [.str w] = some (sgs (cs w)) := by
  show (if _ then _ else _) = _
  rw [if_pos h, signs_eq]
theorem read_word {x w : Str} {fs : List D} {a b : Slot} (hw : Asc w) (hz : w.length ≤ 1000) (hf : fs.length < 16777216) (st : Sto) :
    if okW w = true then ∃ b', bd__law_read_1 [.val (.str x), .own fs, .val (.str w), b, .emp] st = .nx [.val (.str x), .own (fs ++ [toD (stepOf w)]), .val (.str w), b', .emp] st else bd__law_read_1 [.val (.str x), .own fs, .val (.str w), b, .emp] st = .rt .none st := by
  have lc2 : ∀ l : List Nat, lc__law_read_2 [.val (.str x), .own fs, .val (.str w), .val (.list (sgs l)), .emp] st = .ok (sgs (l.filter fun c => !isDg c)) st := fun l => by
    refine lc_ok (fun c : Nat => PyData.str (sg c)) l (fun c => !isDg c) (fun c => .str (sg c)) ?_ fun c hc => ⟨_, rfl, ?_, fun _ => rfl⟩
    · simp_arith []
    · rw [← isDg_fig]
      simp_arith [z_ninS]
  have lc1 : ∀ l : List Nat, (∀ c ∈ l, 48 ≤ c ∧ c ≤ 55) → lc__law_read_1 [.val (.str x), .own fs, .val (.str w), .val (.list (sgs l)), .emp] st = .ok (l.map fun c : Nat => .int ((c : Int) - 48)) st := fun l hl => by
    refine lc_all (fun c : Nat => PyData.str (sg c)) l (fun c : Nat => .int ((c : Int) - 48)) ?_ fun c hc => ⟨_, rfl, ?_⟩
    · simp_arith []
    · simp_arith [int_sg (hl c hc)]
  have hq := eq_dash hw
  have he := eq_emp hw
  unfold okW bd__law_read_1
  by_cases q : w = sDash
  · rw [decide_eq_true q] at hq ⊢
    have hc : cs w ≠ [] := by rw [q, cs_dash]; simp
    rw [decide_eq_false hc] at he
    rw [Bool.true_or, if_pos rfl]
    have l2 : lc__law_read_2 [.val (.str x), .own fs, .val (.str w), .val (.list []), .emp] st = .ok [] st := lc2 []
    have l1 : lc__law_read_1 [.val (.str x), .own fs, .val (.str w), .val (.list []), .emp] st = .ok [] st := lc1 [] (by simp)
    have h1 : gNe (.list []) (.list []) = some false := z_neL0 (l := []) (by simp)
    have h2 : gSortSetX (.list []) = some [] := setX_lst (l := []) (by simp)
    have es : toD (stepOf w) = .tuple [] := by unfold stepOf; rw [if_pos q]; rfl
    refine ⟨.val (.list []), ?_⟩
    simp_arith [hq, he, l2, l1, h1, h2, hf, es]
  · rw [decide_eq_false q] at hq ⊢
    rw [Bool.false_or]
    have hl : gListStr [.str w] = some (sgs (cs w)) := z_lstr (by omega)
    by_cases hc : cs w = []
    · rw [decide_eq_true hc] at he
      rw [decide_eq_false (by simp [hc]), Bool.false_and, if_neg (by simp)]
      simp_arith [hq, he, hl]
    · rw [decide_eq_false hc] at he
      rw [decide_eq_true hc, Bool.true_and]
      have l2 := lc2 (cs w)
      have h1 := z_neL0 hw.flt
      by_cases hd : (cs w).all isDg = true
      · rw [odd_nil.mpr hd] at h1 l2
        rw [hd, Bool.true_and]
        have h1 : gNe (.list []) (.list []) = some false := by simpa using h1
        have l2 : lc__law_read_2 [.val (.str x), .own fs, .val (.str w), .val (.list (sgs (cs w))), .emp] st = .ok [] st := l2
        have hsl : (cs w).length ≤ 4000 := by rw [cs_ln] at hz; omega
        have h2 : gSortSetX (.list (sgs (cs w))) = some (sgs (setU ltN (cs w))) := setX_lst hsl
        have h3 : gNe (.list (sgs (setU ltN (cs w)))) (.list (sgs (cs w))) = some (!decide (setU ltN (cs w) = cs w)) := z_neL2 hw.setU hw
        by_cases hp : (cs w).Pairwise (· < ·)
        · rw [if_pos (decide_eq_true hp)]
          rw [decide_eq_true ((setU_iff _).mpr hp)] at h3
          have l1 := lc1 (cs w) fun c h => dig_range hd h
          have es : toD (stepOf w) = .tuple ((cs w).map fun c : Nat => .int ((c : Int) - 48)) := by
            unfold stepOf; rw [if_neg q]
            show PyData.tuple ((dgs w).map PyData.int) = _
            unfold dgs; rw [List.map_map]; rfl
          refine ⟨.val (.list (sgs (cs w))), ?_⟩
          simp_arith [hq, he, hl, l2, l1, h1, h2, h3, hf, es]
        · rw [if_neg (by simp [hp])]
          rw [decide_eq_false (fun z => hp ((setU_iff _).mp z))] at h3
          simp_arith [hq, he, hl, l2, h1, h2, h3]
      · rw [decide_eq_false (fun z => hd (odd_nil.mp z))] at h1
        rw [show (cs w).all isDg = false by simpa using hd, Bool.false_and, if_neg (by simp)]
        simp_arith [hq, he, hl, l2, h1]
theorem law_read_eq {x : Str} (hx : Asc x) (hz : x.length ≤ 1000) (st : Sto) : fn__law_read [.str x] st = .ok (if isTx x = true then toD (barOf x) else .none) st := by
  refine fnB_rt ?_
  show b__law_read [.val (.str x), .emp, .emp, .emp, .emp] st = _
  unfold b__law_read
  have hlw : (wds x).length ≤ 1001 := by
    have := PyProof.Rows.split_weight x sDot (by rw [cs_ln, cs_dot]; decide)
    show (Txt.split x sDot).length ≤ 1001
    omega
  have lp := for_if (t := .nm 2) (body := bd__law_read_1) (st := st) (d := .none) PyData.str okW (fun n ρ => ∃ a b, ρ = [.val (.str x), .own (((wds x).take n).map fun w => toD (stepOf w)), a, b, .emp]) (wds x) 0 [.val (.str x), .own [], .emp, .emp, .emp] ⟨_, _, rfl⟩ fun m w ρ hm ⟨a, b, e⟩ => by
    subst e
    refine ⟨_, rfl, ?_⟩
    have hw := List.mem_of_getElem? hm
    have hb := read_word (x := x) (w := w) (a := a) (b := b) (fs := ((wds x).take (0 + m)).map fun w => toD (stepOf w)) (hx.wd hw) ((WB.len (l := cs x)).wd hw |> fun h => by rw [cs_ln] at hz; omega) (by rw [List.length_map, List.length_take]; omega) st
    by_cases hp : okW w = true
    · rw [if_pos hp] at hb ⊢
      obtain ⟨b', hb⟩ := hb
      refine ⟨_, hb, .val (.str w), b', ?_⟩
      rw [show 0 + m + 1 = m + 1 by omega, Nat.zero_add, List.take_add_one, hm, List.map_append]; rfl
    · rw [if_neg hp] at hb ⊢
      exact hb
  unfold isTx
  by_cases ha : (wds x).all okW = true
  · rw [if_pos ha] at lp
    obtain ⟨ρ', h1, a, b, rfl⟩ := lp
    rw [Nat.zero_add, List.take_of_length_le (Nat.le_refl _)] at h1
    have h2 : lp__law_read_1 [.val (.str x), .own [], .emp, .emp, .emp] st = .nx [.val (.str x), .own ((wds x).map fun w => toD (stepOf w)), a, b, .emp] st := by
      unfold lp__law_read_1
      simp_arith [gSplit_eq (x := x) (by omega), h1]
    have hlt : gLt (.int ((wds x).map fun w => toD (stepOf w)).length) (.int 17) = some (decide ((wds x).length ≤ 16)) := by
      rw [List.length_map]
      show some (decide (((wds x).length : Int) < 17)) = _
      congr 1; exact decide_eq_decide.mpr (by omega)
    have e2 : PyData.tuple ((wds x).map fun w => toD (stepOf w)) = toD (barOf x) := by
      show _ = PyData.tuple (((wds x).map stepOf).map fun s : Step => toD s)
      rw [List.map_map]; rfl
    rw [ha, Bool.and_true]
    by_cases hl : (wds x).length ≤ 16
    · rw [decide_eq_true hl] at hlt ⊢
      simp_arith [h2, hlt, e2]
    · rw [decide_eq_false hl] at hlt ⊢
      simp_arith [h2, hlt, e2]
  · rw [if_neg ha] at lp
    have h2 : lp__law_read_1 [.val (.str x), .own [], .emp, .emp, .emp] st = .rt .none st := by
      unfold lp__law_read_1
      simp_arith [gSplit_eq (x := x) (by omega), lp]
    rw [show (wds x).all okW = false by simpa using ha, Bool.and_false]
    simp_arith [h2]
end BF

namespace k41
open PySem L2 BF R
section
variable {P : Program} {wo : World} {K : PySem.W.Frag} {mg : Str → Option Value} {base : Heap} {C : Nat → Addr}
def top (i : Nat) : Stmt := PySem.Challenge.pw_beatfinds_k41_texts.main.body.getD i (.Pass ⟨0, 0, 0, 0⟩)
structure Tx (K : PySem.W.Frag) (mg : Str → Option Value) (C : Nat → Addr) : Prop where
  b_ValueError : mg (PySem.Str.ofString "ValueError") = none
  b_all : mg (PySem.Str.ofString "all") = none
  b_bool : mg (PySem.Str.ofString "bool") = none
  b_int : mg (PySem.Str.ofString "int") = none
  b_isinstance : mg (PySem.Str.ofString "isinstance") = none
  b_len : mg (PySem.Str.ofString "len") = none
  b_list : mg (PySem.Str.ofString "list") = none
  b_range : mg (PySem.Str.ofString "range") = none
  b_set : mg (PySem.Str.ofString "set") = none
  b_sorted : mg (PySem.Str.ofString "sorted") = none
  b_str : mg (PySem.Str.ofString "str") = none
  b_tuple : mg (PySem.Str.ofString "tuple") = none
  c_MOST_PAD : ∃ t, mg (PySem.Str.ofString "MOST_PAD") = some (.int 7 t)
  c_MOST_SIZE : ∃ t, mg (PySem.Str.ofString "MOST_SIZE") = some (.int 16 t)
  c_MOST_BARS : ∃ t, mg (PySem.Str.ofString "MOST_BARS") = some (.int 60 t)
  c_FIGURES : ∃ t, mg (PySem.Str.ofString "FIGURES") = some (.str (PySem.Str.ofString "01234567") t)
  c_NONE : ∃ t, mg (PySem.Str.ofString "NONE") = some (.str (PySem.Str.ofString "-") t)
  x_BadHeard : ExF K mg C (PySem.Str.ofString "BadHeard") 0
  x_BadNumber : ExF K mg C (PySem.Str.ofString "BadNumber") 1
  x_BadBars : ExF K mg C (PySem.Str.ofString "BadBars") 2
  x_BadChain : ExF K mg C (PySem.Str.ofString "BadChain") 3
  x_TooMany : ExF K mg C (PySem.Str.ofString "TooMany") 4
  x_BadText : ExF K mg C (PySem.Str.ofString "BadText") 5
  g_BeatError : mg (PySem.Str.ofString "BeatError") = some (.ref (C 6))
  ek : ExK K C 6
  em : ∀ c', c' < 6 → PySem.W.exmOne K (.ref (C c')) (.ref (C 6)) = some true
abbrev s_is_whole : Stmt := top 10
theorem has_is_whole {f : Addr} {fd : FuncData} (T : Tx K mg C) (F : FunD K (PySem.Str.ofString "is_whole") (PySem.Str.ofString "is_whole") (defArgs s_is_whole) (defBody s_is_whole) (defScope s_is_whole) [] [] f fd) (hm : mg (PySem.Str.ofString "is_whole") = some (.ref f))  : Has P wo K mg base C (PySem.Str.ofString "is_whole") 3 1 fn_is_whole :=
  has_mk (N := [(PySem.Str.ofString "thing"), (PySem.Str.ofString "low"), (PySem.Str.ofString "most")]) (ps := [(PySem.Str.ofString "thing"), (PySem.Str.ofString "low"), (PySem.Str.ofString "most")]) (k := 0) F hm ⟨rfl, rfl, rfl, by decide +kernel, rfl, by decide +kernel, by decide +kernel⟩ (fun _ _ _ _ _ _ us hl => match us, hl with | [_, _, _], _ => rfl) fun _ _ _ _ _ _ g =>
    (dss_one (ds_ret (de_and (de_bV (de_isi (de_var 0) T.b_isinstance T.b_int bo_int)) (de_and (de_not (de_bV (de_isi (de_var 0) T.b_isinstance T.b_bool bo_bool))) (de_and1 (de_ch op_le os_le op_le os_le (de_var 1) (de_var 0) (de_var 2)))))))
abbrev s_is_step : Stmt := top 14
theorem has_is_step {f : Addr} {fd : FuncData} (T : Tx K mg C) (F : FunD K (PySem.Str.ofString "is_step") (PySem.Str.ofString "is_step") (defArgs s_is_step) (defBody s_is_step) (defScope s_is_step) [] [] f fd) (hm : mg (PySem.Str.ofString "is_step") = some (.ref f)) (h_is_whole : Has P wo K mg base C (PySem.Str.ofString "is_whole") 3 1 fn_is_whole) : Has P wo K mg base C (PySem.Str.ofString "is_step") 1 2 fn_is_step :=
  has_mk (N := [(PySem.Str.ofString "thing"), (PySem.Str.ofString "pad")]) (ps := [(PySem.Str.ofString "thing")]) (k := 1) F hm ⟨rfl, rfl, rfl, by decide +kernel, rfl, by decide +kernel, by decide +kernel⟩ (fun _ _ _ _ _ _ us hl => match us, hl with | [_], _ => rfl) fun _ _ _ _ _ _ g =>
    (dss_cons (ds_if (dt_w (dw_or (dt_not (dt_tru (de_isi (de_var 0) T.b_isinstance T.b_tuple bo_tuple))) (dw_or1 (dt_not (dt_tru (de_callB (cr_all g.calm) cs_all T.b_all bo_all (da_cons (de_l (dl_lc [((PySem.Str.ofString "pad"), 1)] g (by decide) (di_walk (de_var 0)) (by kernel_rfl) (fun _ _ _ _ _ => (dg_nm 1 g.nd)) (fun _ _ _ _ _ g => dts_nil) (fun _ _ _ _ _ g => (de_call g h_is_whole (by decide) (da_cons (de_var 1) (da_cons de_int (da_cons (de_gint T.c_MOST_PAD) da_nil))))))) da_nil))))))) (dss_one (ds_ret de_bool)) dss_nil)
    (dss_one (ds_ret (de_cm (op_eqD g.room.units) os_eq (de_l (dl_sset g (de_var 0) T.b_sorted T.b_set)) (de_l (dl_callT call_list_of cs_listOf T.b_list bo_list (da_cons (de_var 0) da_nil)))))))
abbrev s_is_bar : Stmt := top 15
theorem has_is_bar {f : Addr} {fd : FuncData} (T : Tx K mg C) (F : FunD K (PySem.Str.ofString "is_bar") (PySem.Str.ofString "is_bar") (defArgs s_is_bar) (defBody s_is_bar) (defScope s_is_bar) [] [] f fd) (hm : mg (PySem.Str.ofString "is_bar") = some (.ref f)) (h_is_step : Has P wo K mg base C (PySem.Str.ofString "is_step") 1 2 fn_is_step) : Has P wo K mg base C (PySem.Str.ofString "is_bar") 1 3 fn_is_bar :=
  has_mk (N := [(PySem.Str.ofString "thing"), (PySem.Str.ofString "step")]) (ps := [(PySem.Str.ofString "thing")]) (k := 2) F hm ⟨rfl, rfl, rfl, by decide +kernel, rfl, by decide +kernel, by decide +kernel⟩ (fun _ _ _ _ _ _ us hl => match us, hl with | [_], _ => rfl) fun _ _ _ _ _ _ g =>
    (dss_one (ds_ret (de_and (de_bV (de_isi (de_var 0) T.b_isinstance T.b_tuple bo_tuple)) (de_and (de_ch op_le os_le op_le os_le de_int (de_callB call_len cs_len T.b_len PySem.boot_len (da_cons (de_var 0) da_nil)) (de_gint T.c_MOST_SIZE)) (de_and1 (de_bV (de_callB (cr_all g.calm) cs_all T.b_all bo_all (da_cons (de_l (dl_lc [((PySem.Str.ofString "step"), 1)] g (by decide) (di_walk (de_var 0)) (by kernel_rfl) (fun _ _ _ _ _ => (dg_nm 1 g.nd)) (fun _ _ _ _ _ g => dts_nil) (fun _ _ _ _ _ g => (de_call g h_is_step (by decide) (da_cons (de_var 1) da_nil))))) da_nil))))))))
abbrev s_look_bars : Stmt := top 16
theorem has_look_bars {f : Addr} {fd : FuncData} (T : Tx K mg C) (F : FunD K (PySem.Str.ofString "look_bars") (PySem.Str.ofString "look_bars") (defArgs s_look_bars) (defBody s_look_bars) (defScope s_look_bars) [] [] f fd) (hm : mg (PySem.Str.ofString "look_bars") = some (.ref f)) (h_is_bar : Has P wo K mg base C (PySem.Str.ofString "is_bar") 1 3 fn_is_bar) : Has P wo K mg base C (PySem.Str.ofString "look_bars") 1 4 fn_look_bars :=
  has_mk (N := [(PySem.Str.ofString "bars"), (PySem.Str.ofString "bar")]) (ps := [(PySem.Str.ofString "bars")]) (k := 3) F hm ⟨rfl, rfl, rfl, by decide +kernel, rfl, by decide +kernel, by decide +kernel⟩ (fun _ _ _ _ _ _ us hl => match us, hl with | [_], _ => rfl) fun _ _ _ _ _ _ g =>
    (dss_cons (ds_if (dt_w (dw_or (dt_not (dt_tru (de_isi (de_var 0) T.b_isinstance T.b_list bo_list))) (dw_or (dt_not (dt_ch op_le os_le op_le os_le de_int (de_callB call_len cs_len T.b_len PySem.boot_len (da_cons (de_var 0) da_nil)) (de_gint T.c_MOST_BARS))) (dw_or1 (dt_not (dt_tru (de_callB (cr_all g.calm) cs_all T.b_all bo_all (da_cons (de_l (dl_lc [((PySem.Str.ofString "bar"), 1)] g (by decide) (di_walk (de_var 0)) (by kernel_rfl) (fun _ _ _ _ _ => (dg_nm 1 g.nd)) (fun _ _ _ _ _ g => dts_nil) (fun _ _ _ _ _ g => (de_call g h_is_bar (by decide) (da_cons (de_var 1) da_nil))))) da_nil)))))))) (dss_one (ds_raise g T.x_BadBars)) dss_nil)
    (dss_one (ds_if (dt_not (dt_tru (de_callB (cr_all g.calm) cs_all T.b_all bo_all (da_cons (de_l (dl_lc [((PySem.Str.ofString "bar"), 1)] g (by decide) (di_walk (de_var 0)) (by kernel_rfl) (fun _ _ _ _ _ => (dg_nm 1 g.nd)) (fun _ _ _ _ _ g => dts_nil) (fun _ _ _ _ _ g => (de_cm (op_eqD g.room.units) os_eq (de_callB call_len cs_len T.b_len PySem.boot_len (da_cons (de_var 1) da_nil)) (de_callB call_len cs_len T.b_len PySem.boot_len (da_cons (de_idx (de_var 0) de_int) da_nil)))))) da_nil)))) (dss_one (ds_raise g T.x_BadBars)) dss_nil)))
abbrev s_bar_text : Stmt := top 20
theorem has_bar_text {f : Addr} {fd : FuncData} (T : Tx K mg C) (F : FunD K (PySem.Str.ofString "bar_text") (PySem.Str.ofString "bar_text") (defArgs s_bar_text) (defBody s_bar_text) (defScope s_bar_text) [] [] f fd) (hm : mg (PySem.Str.ofString "bar_text") = some (.ref f))  : Has P wo K mg base C (PySem.Str.ofString "bar_text") 1 1 fn_bar_text :=
  has_mk (N := [(PySem.Str.ofString "bar"), (PySem.Str.ofString "step"), (PySem.Str.ofString "pad")]) (ps := [(PySem.Str.ofString "bar")]) (k := 0) F hm ⟨rfl, rfl, rfl, by decide +kernel, rfl, by decide +kernel, by decide +kernel⟩ (fun _ _ _ _ _ _ us hl => match us, hl with | [_], _ => rfl) fun _ _ _ _ _ _ g =>
    (dss_one (ds_ret (de_join de_str (de_l (dl_lc [((PySem.Str.ofString "step"), 1)] g (by decide) (di_walk (de_var 0)) (by kernel_rfl) (fun _ _ _ _ _ => (dg_nm 1 g.nd)) (fun _ _ _ _ _ g => dts_nil) (fun _ _ _ _ _ g => (de_if (dt_tru (de_var 1)) (de_join de_str (de_l (dl_lc [((PySem.Str.ofString "pad"), 2)] g (by decide) (di_walk (de_var 1)) (by kernel_rfl) (fun _ _ _ _ _ => (dg_nm 2 g.nd)) (fun _ _ _ _ _ g => dts_nil) (fun _ _ _ _ _ g => (de_callT call_str_int cs_str T.b_str bo_str (da_cons (de_var 2) da_nil)))))) (de_gstr T.c_NONE))))))))
abbrev s_written : Stmt := top 21
theorem has_written {f : Addr} {fd : FuncData} (T : Tx K mg C) (F : FunD K (PySem.Str.ofString "written") (PySem.Str.ofString "written") (defArgs s_written) (defBody s_written) (defScope s_written) [] [] f fd) (hm : mg (PySem.Str.ofString "written") = some (.ref f)) (h_bar_text : Has P wo K mg base C (PySem.Str.ofString "bar_text") 1 1 fn_bar_text) (h_look_bars : Has P wo K mg base C (PySem.Str.ofString "look_bars") 1 4 fn_look_bars) : Has P wo K mg base C (PySem.Str.ofString "written") 1 5 fn_written :=
  has_mk (N := [(PySem.Str.ofString "bar")]) (ps := [(PySem.Str.ofString "bar")]) (k := 4) F hm ⟨rfl, rfl, rfl, by decide +kernel, rfl, by decide +kernel, by decide +kernel⟩ (fun _ _ _ _ _ _ us hl => match us, hl with | [_], _ => rfl) fun _ _ _ _ _ _ g =>
    (dss_cons (ds_drop (de_call g h_look_bars (by decide) (da_cons (de_l (dl_lst (da_cons (de_var 0) da_nil))) da_nil)))
    (dss_one (ds_ret (de_call g h_bar_text (by decide) (da_cons (de_var 0) da_nil)))))
abbrev s_step_in : Stmt := top 22
theorem has_step_in {f : Addr} {fd : FuncData} (T : Tx K mg C) (F : FunD K (PySem.Str.ofString "step_in") (PySem.Str.ofString "step_in") (defArgs s_step_in) (defBody s_step_in) (defScope s_step_in) [] [] f fd) (hm : mg (PySem.Str.ofString "step_in") = some (.ref f))  : Has P wo K mg base C (PySem.Str.ofString "step_in") 1 1 fn_step_in :=
  has_mk (N := [(PySem.Str.ofString "word"), (PySem.Str.ofString "sign")]) (ps := [(PySem.Str.ofString "word")]) (k := 0) F hm ⟨rfl, rfl, rfl, by decide +kernel, rfl, by decide +kernel, by decide +kernel⟩ (fun _ _ _ _ _ _ us hl => match us, hl with | [_], _ => rfl) fun _ _ _ _ _ _ g =>
    (dss_cons (ds_if (dt_cm (op_eqD g.room.units) os_eq (de_var 0) (de_gstr T.c_NONE)) (dss_one (ds_ret (de_tup da_nil))) dss_nil)
    (dss_cons (ds_if (dt_not (dt_tru (de_callB (cr_all g.calm) cs_all T.b_all bo_all (da_cons (de_l (dl_lc [((PySem.Str.ofString "sign"), 1)] g (by decide) (di_walk (de_var 0)) (by kernel_rfl) (fun _ _ _ _ _ => (dg_nm 1 g.nd)) (fun _ _ _ _ _ g => dts_nil) (fun _ _ _ _ _ g => (de_cm (or_in g.u65) os_in (de_var 1) (de_gstr T.c_FIGURES))))) da_nil)))) (dss_one (ds_raise g T.x_BadText)) dss_nil)
    (dss_one (ds_ret (de_callT call_tuple_of cs_tupOf T.b_tuple bo_tuple (da_cons (de_l (dl_lc [((PySem.Str.ofString "sign"), 1)] g (by decide) (di_walk (de_var 0)) (by kernel_rfl) (fun _ _ _ _ _ => (dg_nm 1 g.nd)) (fun _ _ _ _ _ g => dts_nil) (fun _ _ _ _ _ g => (de_callT call_intA cs_intA T.b_int bo_int (da_cons (de_var 1) da_nil))))) da_nil))))))
abbrev s_read : Stmt := top 23
theorem has_read {f : Addr} {fd : FuncData} (T : Tx K mg C) (F : FunD K (PySem.Str.ofString "read") (PySem.Str.ofString "read") (defArgs s_read) (defBody s_read) (defScope s_read) [] [] f fd) (hm : mg (PySem.Str.ofString "read") = some (.ref f)) (h_bar_text : Has P wo K mg base C (PySem.Str.ofString "bar_text") 1 1 fn_bar_text) (h_is_bar : Has P wo K mg base C (PySem.Str.ofString "is_bar") 1 3 fn_is_bar) (h_step_in : Has P wo K mg base C (PySem.Str.ofString "step_in") 1 1 fn_step_in) : Has P wo K mg base C (PySem.Str.ofString "read") 1 4 fn_read :=
  has_mk (N := [(PySem.Str.ofString "text"), (PySem.Str.ofString "found"), (PySem.Str.ofString "word")]) (ps := [(PySem.Str.ofString "text")]) (k := 3) F hm ⟨rfl, rfl, rfl, by decide +kernel, rfl, by decide +kernel, by decide +kernel⟩ (fun _ _ _ _ _ _ us hl => match us, hl with | [_], _ => rfl) fun _ _ _ _ _ _ g =>
    (dss_cons (ds_set 1 g (de_callT call_tuple_of cs_tupOf T.b_tuple bo_tuple (da_cons (de_l (dl_lcE [((PySem.Str.ofString "word"), 2)] g (by decide) (di_walk (de_l (dl_split (de_var 0) de_str))) (by kernel_rfl) (fun _ _ _ _ _ => (dg_nm 2 g.nd)) (fun _ _ _ _ _ _ _ _ hp hr => (de_callP hp hr h_step_in (by decide) (da_cons (de_var 2) da_nil))))) da_nil)))
    (dss_cons (ds_if (dt_w (dw_or (dt_not (dt_tru (de_call g h_is_bar (by decide) (da_cons (de_var 1) da_nil)))) (dw_or1 (dt_cm (op_neD g.room.units) os_ne (de_call g h_bar_text (by decide) (da_cons (de_var 1) da_nil)) (de_var 0))))) (dss_one (ds_raise g T.x_BadText)) dss_nil)
    (dss_one (ds_ret (de_var 1)))))
abbrev s__law_cell : Stmt := top 25
theorem has__law_cell {f : Addr} {fd : FuncData} (T : Tx K mg C) (F : FunD K (PySem.Str.ofString "_law_cell") (PySem.Str.ofString "_law_cell") (defArgs s__law_cell) (defBody s__law_cell) (defScope s__law_cell) [] [] f fd) (hm : mg (PySem.Str.ofString "_law_cell") = some (.ref f))  : Has P wo K mg base C (PySem.Str.ofString "_law_cell") 2 1 fn__law_cell :=
  has_mk (N := [(PySem.Str.ofString "_law_script"), (PySem.Str.ofString "_law_k")]) (ps := [(PySem.Str.ofString "_law_script"), (PySem.Str.ofString "_law_k")]) (k := 0) F hm ⟨rfl, rfl, rfl, by decide +kernel, rfl, by decide +kernel, by decide +kernel⟩ (fun _ _ _ _ _ _ us hl => match us, hl with | [_, _], _ => rfl) fun _ _ _ _ _ _ g =>
    (dss_cons (ds_if (dt_tru (de_var 0)) (dss_one (ds_ret (de_idx (de_var 0) (de_op op_mod os_mod (de_var 1) (de_callB call_len cs_len T.b_len PySem.boot_len (da_cons (de_var 0) da_nil)))))) dss_nil)
    (dss_one (ds_ret de_int)))
abbrev s__law_mix : Stmt := top 26
theorem has__law_mix {f : Addr} {fd : FuncData} (T : Tx K mg C) (F : FunD K (PySem.Str.ofString "_law_mix") (PySem.Str.ofString "_law_mix") (defArgs s__law_mix) (defBody s__law_mix) (defScope s__law_mix) [] [] f fd) (hm : mg (PySem.Str.ofString "_law_mix") = some (.ref f)) (h__law_cell : Has P wo K mg base C (PySem.Str.ofString "_law_cell") 2 1 fn__law_cell) : Has P wo K mg base C (PySem.Str.ofString "_law_mix") 2 2 fn__law_mix :=
  has_mk (N := [(PySem.Str.ofString "_law_script"), (PySem.Str.ofString "_law_k"), (PySem.Str.ofString "_law_number")]) (ps := [(PySem.Str.ofString "_law_script"), (PySem.Str.ofString "_law_k")]) (k := 1) F hm ⟨rfl, rfl, rfl, by decide +kernel, rfl, by decide +kernel, by decide +kernel⟩ (fun _ _ _ _ _ _ us hl => match us, hl with | [_, _], _ => rfl) fun _ _ _ _ _ _ g =>
    (dss_cons (ds_set 2 g (de_op op_mod os_mod (de_op or_add os_add (de_call g h__law_cell (by decide) (da_cons (de_var 0) (da_cons (de_var 1) da_nil))) (de_op or_mul os_mul de_int (de_op or_add os_add (de_var 1) de_int))) de_int))
    (dss_cons (ds_set 2 g (de_op op_mod os_mod (de_op op_pow os_pow (de_var 2) de_int) de_int))
    (dss_one (ds_ret (de_op op_mod os_mod (de_op or_add os_add (de_op or_mul os_mul (de_op op_fdiv os_fdiv (de_var 2) de_int) de_int) (de_var 2)) de_int)))))
abbrev s__law_draw : Stmt := top 27
theorem has__law_draw {f : Addr} {fd : FuncData} (T : Tx K mg C) (F : FunD K (PySem.Str.ofString "_law_draw") (PySem.Str.ofString "_law_draw") (defArgs s__law_draw) (defBody s__law_draw) (defScope s__law_draw) [] [] f fd) (hm : mg (PySem.Str.ofString "_law_draw") = some (.ref f)) (h__law_mix : Has P wo K mg base C (PySem.Str.ofString "_law_mix") 2 2 fn__law_mix) : Has P wo K mg base C (PySem.Str.ofString "_law_draw") 3 3 fn__law_draw :=
  has_mk (N := [(PySem.Str.ofString "_law_script"), (PySem.Str.ofString "_law_town"), (PySem.Str.ofString "_law_many")]) (ps := [(PySem.Str.ofString "_law_script"), (PySem.Str.ofString "_law_town"), (PySem.Str.ofString "_law_many")]) (k := 2) F hm ⟨rfl, rfl, rfl, by decide +kernel, rfl, by decide +kernel, by decide +kernel⟩ (fun _ _ _ _ _ _ us hl => match us, hl with | [_, _, _], _ => rfl) fun _ _ _ _ _ _ g =>
    (dss_cons (ds_appOb 1 de_int)
    (dss_one (ds_ret (de_op op_mod os_mod (de_op op_fdiv os_fdiv (de_call g h__law_mix (by decide) (da_cons (de_var 0) (da_cons (de_lenOb 1 T.b_len) da_nil))) de_int) (de_var 2)))))
abbrev s__law_pick : Stmt := top 28
theorem has__law_pick {f : Addr} {fd : FuncData} (T : Tx K mg C) (F : FunD K (PySem.Str.ofString "_law_pick") (PySem.Str.ofString "_law_pick") (defArgs s__law_pick) (defBody s__law_pick) (defScope s__law_pick) [] [] f fd) (hm : mg (PySem.Str.ofString "_law_pick") = some (.ref f)) (h__law_draw : Has P wo K mg base C (PySem.Str.ofString "_law_draw") 3 3 fn__law_draw) : Has P wo K mg base C (PySem.Str.ofString "_law_pick") 3 4 fn__law_pick :=
  has_mk (N := [(PySem.Str.ofString "_law_script"), (PySem.Str.ofString "_law_town"), (PySem.Str.ofString "_law_some")]) (ps := [(PySem.Str.ofString "_law_script"), (PySem.Str.ofString "_law_town"), (PySem.Str.ofString "_law_some")]) (k := 3) F hm ⟨rfl, rfl, rfl, by decide +kernel, rfl, by decide +kernel, by decide +kernel⟩ (fun _ _ _ _ _ _ us hl => match us, hl with | [_, _, _], _ => rfl) fun _ _ _ _ _ _ g =>
    (dss_one (ds_ret (de_idx (de_var 2) (de_call g h__law_draw (by decide) (da_cons (de_var 0) (da_cons (de_var 1) (da_cons (de_callB call_len cs_len T.b_len PySem.boot_len (da_cons (de_var 2) da_nil)) da_nil)))))))
abbrev s__law_refusal : Stmt := top 29
theorem has__law_refusal {f : Addr} {fd : FuncData} (T : Tx K mg C) (F : FunD K (PySem.Str.ofString "_law_refusal") (PySem.Str.ofString "_law_refusal") (defArgs s__law_refusal) (defBody s__law_refusal) (defScope s__law_refusal) [] [] f fd) (hm : mg (PySem.Str.ofString "_law_refusal") = some (.ref f))  : Has P wo K mg base C (PySem.Str.ofString "_law_refusal") 1 1 fn__law_refusal :=
  has_mk (N := [(PySem.Str.ofString "_law_caught"), (PySem.Str.ofString "_law_kinds")]) (ps := [(PySem.Str.ofString "_law_caught")]) (k := 0) F hm ⟨rfl, rfl, rfl, by decide +kernel, rfl, by decide +kernel, by decide +kernel⟩ (fun _ _ _ _ _ _ us hl => match us, hl with | [_], _ => rfl) fun _ _ _ _ _ _ g =>
    (dss_cons (ds_if (dt_cm op_isN os_isN (de_var 0) de_none) (dss_one (ds_ret (de_tup (da_cons de_str da_nil)))) dss_nil)
    (dss_cons (ds_set 1 g (de_l (dl_lst (da_cons (de_isE T.ek (by decide) (de_var 0) T.b_isinstance T.x_BadHeard.mg) (da_cons (de_isE T.ek (by decide) (de_var 0) T.b_isinstance T.x_BadNumber.mg) (da_cons (de_isE T.ek (by decide) (de_var 0) T.b_isinstance T.x_BadBars.mg) da_nil))))))
    (dss_cons (ds_set 1 g (de_op or_add os_add (de_var 1) (de_l (dl_lst (da_cons (de_isE T.ek (by decide) (de_var 0) T.b_isinstance T.x_BadChain.mg) (da_cons (de_isE T.ek (by decide) (de_var 0) T.b_isinstance T.x_TooMany.mg) (da_cons (de_isE T.ek (by decide) (de_var 0) T.b_isinstance T.x_BadText.mg) da_nil)))))))
    (dss_cons (ds_if (dt_w (dw_or (dt_cm (op_neD g.room.units) os_ne (de_methL PySem.F.slot_list_count PySem.F.type_list_count (mt_countD g.u65) ms_count (de_var 1) de_bool) de_int) (dw_or1 (dt_not (dt_tru (de_isV T.ek (de_var 0) T.b_isinstance T.b_ValueError)))))) (dss_one (ds_ret (de_tup (da_cons de_str da_nil)))) dss_nil)
    (dss_one (ds_ret (de_tup (da_cons de_str (da_cons (de_idx (de_l (dl_lst (da_cons de_str (da_cons de_str (da_cons de_str (da_cons de_str (da_cons de_str (da_cons de_str da_nil)))))))) (de_methL PySem.F.slot_list_index PySem.F.type_list_index (mt_indexD g.u65) ms_index (de_var 1) de_bool)) da_nil)))))))))
abbrev s__law_bar : Stmt := top 30
theorem has__law_bar {f : Addr} {fd : FuncData} (T : Tx K mg C) (F : FunD K (PySem.Str.ofString "_law_bar") (PySem.Str.ofString "_law_bar") (defArgs s__law_bar) (defBody s__law_bar) (defScope s__law_bar) [] [] f fd) (hm : mg (PySem.Str.ofString "_law_bar") = some (.ref f)) (h__law_draw : Has P wo K mg base C (PySem.Str.ofString "_law_draw") 3 3 fn__law_draw) (h__law_pick : Has P wo K mg base C (PySem.Str.ofString "_law_pick") 3 4 fn__law_pick) : Has P wo K mg base C (PySem.Str.ofString "_law_bar") 3 5 fn__law_bar :=
  has_mk (N := [(PySem.Str.ofString "_law_script"), (PySem.Str.ofString "_law_town"), (PySem.Str.ofString "_law_size"), (PySem.Str.ofString "_law_found"), (PySem.Str.ofString "_law_k"), (PySem.Str.ofString "_law_pads"), (PySem.Str.ofString "_law_j")]) (ps := [(PySem.Str.ofString "_law_script"), (PySem.Str.ofString "_law_town"), (PySem.Str.ofString "_law_size")]) (k := 4) F hm ⟨rfl, rfl, rfl, by decide +kernel, rfl, by decide +kernel, by decide +kernel⟩ (fun _ _ _ _ _ _ us hl => match us, hl with | [_, _, _], _ => rfl) fun _ _ _ _ _ _ g =>
    (dss_cons (ds_own 3 g (dl_lst da_nil))
    (dss_cons (ds_for g (di_rng1 T.b_range (de_var 2)) (dg_nm 4 g.nd) (dss_cons (ds_setLc 5 [((PySem.Str.ofString "_law_j"), 6)] g rfl rfl (sw_true rfl rfl rfl (by decide +kernel)) (by decide) (di_rng1 T.b_range (de_call g h__law_pick (by decide) (da_cons (de_var 0) (da_cons (de_var 1) (da_cons (de_l (dl_lst (da_cons de_int (da_cons de_int (da_cons de_int (da_cons de_int (da_cons de_int (da_cons de_int (da_cons de_int da_nil))))))))) da_nil))))) (by kernel_rfl) (fun _ _ _ _ _ => (dg_nm 6 g.nd)) (fun _ _ _ _ _ g => dts_nil) (fun _ _ _ _ _ g => (de_call g h__law_draw (by decide) (da_cons (de_var 0) (da_cons (de_var 1) (da_cons de_int da_nil))))))
    (dss_one (ds_app 3 (de_callT call_tuple_of cs_tupOf T.b_tuple bo_tuple (da_cons (de_l (dl_sset g (de_var 5) T.b_sorted T.b_set)) da_nil))))))
    (dss_ice 3 (dss_one (ds_ret (de_callT call_tuple_of cs_tupOf T.b_tuple bo_tuple (da_cons (de_var 3) da_nil)))))))
abbrev s__law_one : Stmt := top 31
def b__law_one : SF := (retS (iteF (liftT gEq (eVar 0) (eC (.int 0))) (callF 1 fn_written (aCons (eVar 1) aNil)) (callF 1 fn_read (aCons (eVar 1) aNil))))
def fn__law_one : Fn := fnB 2 b__law_one
theorem has__law_one {f : Addr} {fd : FuncData} (T : Tx K mg C) (F : FunD K (PySem.Str.ofString "_law_one") (PySem.Str.ofString "_law_one") (defArgs s__law_one) (defBody s__law_one) (defScope s__law_one) [] [] f fd) (hm : mg (PySem.Str.ofString "_law_one") = some (.ref f)) (h_read : Has P wo K mg base C (PySem.Str.ofString "read") 1 4 fn_read) (h_written : Has P wo K mg base C (PySem.Str.ofString "written") 1 5 fn_written) : Has P wo K mg base C (PySem.Str.ofString "_law_one") 2 6 fn__law_one :=
  has_mk (N := [(PySem.Str.ofString "_law_kind"), (PySem.Str.ofString "_law_some")]) (ps := [(PySem.Str.ofString "_law_kind"), (PySem.Str.ofString "_law_some")]) (k := 5) F hm ⟨rfl, rfl, rfl, by decide +kernel, rfl, by decide +kernel, by decide +kernel⟩ (fun _ _ _ _ _ _ us hl => match us, hl with | [_, _], _ => rfl) fun _ _ _ _ _ _ g =>
    (dss_one (ds_ret (de_if (dt_cm (op_eqD g.room.units) os_eq (de_var 0) de_int) (de_call g h_written (by decide) (da_cons (de_var 1) da_nil)) (de_call g h_read (by decide) (da_cons (de_var 1) da_nil)))))
abbrev s__law_told : Stmt := top 32
def b__law_told : SF := (seqS (asgS (.nm 2) (eC .none))
    (seqS (asgS (.nm 3) (eC .none))
    (seqS (keepS 6 4 2 (asgS (.nm 3) (callF 2 fn__law_one (aCons (eVar 0) (aCons (eVar 1) aNil)))))
    (retS (iteF (liftT gIsN (eVar 2) (eC .none)) (tupV (aCons (eC (.str (PySem.Str.ofString "found"))) (aCons (eVar 3) aNil))) (callF 1 fn__law_refusal (aCons (eVar 2) aNil)))))))
def fn__law_told : Fn := fnB 5 b__law_told
theorem has__law_told {f : Addr} {fd : FuncData} (T : Tx K mg C) (F : FunD K (PySem.Str.ofString "_law_told") (PySem.Str.ofString "_law_told") (defArgs s__law_told) (defBody s__law_told) (defScope s__law_told) [] [] f fd) (hm : mg (PySem.Str.ofString "_law_told") = some (.ref f)) (h__law_one : Has P wo K mg base C (PySem.Str.ofString "_law_one") 2 6 fn__law_one) (h__law_refusal : Has P wo K mg base C (PySem.Str.ofString "_law_refusal") 1 1 fn__law_refusal) : Has P wo K mg base C (PySem.Str.ofString "_law_told") 2 7 fn__law_told :=
  has_mk (N := [(PySem.Str.ofString "_law_kind"), (PySem.Str.ofString "_law_some"), (PySem.Str.ofString "_law_caught"), (PySem.Str.ofString "_law_found"), (PySem.Str.ofString "e")]) (ps := [(PySem.Str.ofString "_law_kind"), (PySem.Str.ofString "_law_some")]) (k := 6) F hm ⟨rfl, rfl, rfl, by decide +kernel, rfl, by decide +kernel, by decide +kernel⟩ (fun _ _ _ _ _ _ us hl => match us, hl with | [_, _], _ => rfl) fun _ _ _ _ _ _ g =>
    (dss_cons (ds_set 2 g de_none)
    (dss_cons (ds_set 3 g de_none)
    (dss_cons (ds_keep 4 2 g T.em (fun _ _ _ g => (dss_one (ds_set 3 g (de_call g h__law_one (by decide) (da_cons (de_var 0) (da_cons (de_var 1) da_nil)))))) ⟨rfl, rfl, .inl T.g_BeatError⟩)
    (dss_one (ds_ret (de_if (dt_cm op_isN os_isN (de_var 2) de_none) (de_tup (da_cons de_str (da_cons (de_var 3) da_nil))) (de_call g h__law_refusal (by decide) (da_cons (de_var 2) da_nil))))))))
abbrev s__law_is_text : Stmt := top 33
theorem has__law_is_text {f : Addr} {fd : FuncData} (T : Tx K mg C) (F : FunD K (PySem.Str.ofString "_law_is_text") (PySem.Str.ofString "_law_is_text") (defArgs s__law_is_text) (defBody s__law_is_text) (defScope s__law_is_text) [] [] f fd) (hm : mg (PySem.Str.ofString "_law_is_text") = some (.ref f))  : Has P wo K mg base C (PySem.Str.ofString "_law_is_text") 1 1 fn__law_is_text :=
  has_mk (N := [(PySem.Str.ofString "_law_text"), (PySem.Str.ofString "_law_words"), (PySem.Str.ofString "_law_word"), (PySem.Str.ofString "_law_sign")]) (ps := [(PySem.Str.ofString "_law_text")]) (k := 0) F hm ⟨rfl, rfl, rfl, by decide +kernel, rfl, by decide +kernel, by decide +kernel⟩ (fun _ _ _ _ _ _ us hl => match us, hl with | [_], _ => rfl) fun _ _ _ _ _ _ g =>
    (dss_cons (ds_set 1 g (de_l (dl_split (de_var 0) de_str)))
    (dss_cons (ds_if (dt_cm op_gt os_gt (de_callB call_len cs_len T.b_len PySem.boot_len (da_cons (de_var 1) da_nil)) de_int) (dss_one (ds_ret de_bool)) dss_nil)
    (dss_cons (ds_for g (di_walk (de_var 1)) (dg_nm 2 g.nd) (dss_cons (ds_if (dt_w (dw_and (dt_cm (op_neD g.room.units) os_ne (de_var 2) de_str) (dw_and1 (dt_w (dw_or (dt_cm (op_eqD g.room.units) os_eq (de_var 2) de_str) (dw_or1 (dt_cm (op_neD g.room.units) os_ne (de_l (dl_lc [((PySem.Str.ofString "_law_sign"), 3)] g (by decide) (di_walk (de_var 2)) (by kernel_rfl) (fun _ _ _ _ _ => (dg_nm 3 g.nd)) (fun _ _ _ _ _ g => (dts_one (dt_cm (or_notIn g.u65) os_notIn (de_var 3) de_str))) (fun _ _ _ _ _ g => (de_var 3)))) (de_l (dl_lst da_nil))))))))) (dss_one (ds_ret de_bool)) dss_nil)
    (dss_one (ds_if (dt_w (dw_and (dt_cm (op_neD g.room.units) os_ne (de_var 2) de_str) (dw_and1 (dt_cm (op_neD g.room.units) os_ne (de_join de_str (de_l (dl_ssetX g (de_var 2) T.b_sorted T.b_set))) (de_var 2))))) (dss_one (ds_ret de_bool)) dss_nil))))
    (dss_one (ds_ret de_bool)))))
abbrev s_law : Stmt := top 34
abbrev el_law_1 : EF := (callF 2 fn__law_told (aCons (eC (.int 1)) (aCons (eVar 12) aNil)))
def lc_law_1 : AF := lcF (walk (eVar 6)) (.nm 12) [12] yesT el_law_1
def bd_law_1 : SF := (seqS (asgS (.nm 7) (callF 3 fn__law_draw (aCons (eVar 0) (aCons (eVar 1) (aCons (lift2 gAdd (callG gLen (aCons (eVar 4) aNil)) (eC (.int 1))) aNil)))))
    (seqS (asgS (.nm 8) (callF 3 fn__law_pick (aCons (eVar 0) (aCons (eVar 1) (aCons (lift2 gAdd (lstV (callG gListStr (aCons (eC (.str (PySem.Str.ofString "0178.- a"))) aNil))) (lstV (chk (aCons (eC (.str (PySem.Str.ofString ""))) (aCons (eC (.str (PySem.Str.ofString "--"))) (aCons (eC (.str (PySem.Str.ofString ".."))) (aCons (eC (.str (PySem.Str.ofString "01"))) (aCons (eC (.str (PySem.Str.ofString "10"))) aNil)))))))) aNil)))))
    (seqS (asgS (.nm 9) (lift2 gAdd (lift2 gAdd (slF (eVar 4) noP (someP (eVar 7))) (eVar 8)) (slF (eVar 4) (someP (lift2 gAdd (eVar 7) (callF 3 fn__law_draw (aCons (eVar 0) (aCons (eVar 1) (aCons (eC (.int 2)) aNil)))))) noP)))
    (seqS (asgS (.nm 10) (callF 2 fn__law_told (aCons (eC (.int 1)) (aCons (eVar 9) aNil))))
    (ifS (notT (truF (callF 1 fn__law_is_text (aCons (eVar 9) aNil)))) (ifS (liftT gNe (eVar 10) (tupV (aCons (eC (.str (PySem.Str.ofString "refused"))) (aCons (eC (.str (PySem.Str.ofString "text"))) aNil)))) (retS (eC (.bool false))) skipS) (ifS (orT (liftT gNe (lift2 gIdx (eVar 10) (eC (.int 0))) (eC (.str (PySem.Str.ofString "found")))) (liftT gNe (callF 2 fn__law_told (aCons (eC (.int 0)) (aCons (lift2 gIdx (eVar 10) (eC (.int 1))) aNil))) (tupV (aCons (eC (.str (PySem.Str.ofString "found"))) (aCons (eVar 9) aNil))))) (retS (eC (.bool false))) skipS))))))
def lp_law_1 : SF := forS (rng1 (eC (.int 8))) (.nm 5) bd_law_1
abbrev el_law_2 : EF := (callG gStr (aCons (eVar 13) aNil))
def lc_law_2 : AF := lcF (walk (eVar 11)) (.nm 13) [13] yesT el_law_2
abbrev el_law_3 : EF := (iteF (liftT gEq (eVar 11) (tupV aNil)) (eC (.str (PySem.Str.ofString "-"))) (methS gJoin (eC (.str (PySem.Str.ofString ""))) (lstV lc_law_2)))
def lc_law_3 : AF := lcF (walk (eVar 2)) (.nm 11) [11] yesT el_law_3
def b_law : SF := (seqS (newOb 1 (chk aNil))
    (seqS (asgS (.nm 2) (callF 3 fn__law_bar (aCons (eVar 0) (aCons (eVar 1) (aCons (lift2 gAdd (eC (.int 1)) (callF 3 fn__law_draw (aCons (eVar 0) (aCons (eVar 1) (aCons (eC (.int 16)) aNil))))) aNil)))))
    (seqS (asgS (.nm 3) (lstV lc_law_3))
    (seqS (asgS (.nm 4) (methS gJoin (eC (.str (PySem.Str.ofString "."))) (eVar 3)))
    (seqS (ifS (orT (liftT gNe (callF 2 fn__law_told (aCons (eC (.int 0)) (aCons (eVar 2) aNil))) (tupV (aCons (eC (.str (PySem.Str.ofString "found"))) (aCons (eVar 4) aNil)))) (liftT gNe (callF 2 fn__law_told (aCons (eC (.int 1)) (aCons (eVar 4) aNil))) (tupV (aCons (eC (.str (PySem.Str.ofString "found"))) (aCons (eVar 2) aNil))))) (retS (eC (.bool false))) skipS)
    (seqS lp_law_1
    (seqS (asgS (.nm 6) (lstV (chk (aCons (eC (.str (PySem.Str.ofString ""))) (aCons (eC (.str (PySem.Str.ofString "."))) (aCons (eC (.str (PySem.Str.ofString "8"))) (aCons (eC (.str (PySem.Str.ofString "-."))) (aCons (eC (.str (PySem.Str.ofString ".-"))) (aCons (eC (.str (PySem.Str.ofString "00"))) (aCons (eC (.str (PySem.Str.ofString "10"))) (aCons (eC (.str (PySem.Str.ofString "0-"))) (aCons (eC (.str (PySem.Str.ofString " "))) (aCons (lift2 gAdd (eC (.str (PySem.Str.ofString "-"))) (lift2 gMul (eC (.str (PySem.Str.ofString ".-"))) (eC (.int 16)))) aNil)))))))))))))
    (seqS (ifS (liftT gNe (lstV lc_law_1) (lift2 gMul (lstV (chk (aCons (tupV (aCons (eC (.str (PySem.Str.ofString "refused"))) (aCons (eC (.str (PySem.Str.ofString "text"))) aNil))) aNil))) (eC (.int 10)))) (retS (eC (.bool false))) skipS)
    (retS (tv (liftT gEq (callF 2 fn__law_told (aCons (eC (.int 1)) (aCons (lift2 gAdd (eC (.str (PySem.Str.ofString "-"))) (lift2 gMul (eC (.str (PySem.Str.ofString ".01234567"))) (eC (.int 15)))) aNil))) (tupV (aCons (eC (.str (PySem.Str.ofString "found"))) (aCons (lift2 gAdd (tupV (aCons (tupV aNil) aNil)) (lift2 gMulT (tupV (aCons (tupV (aCons (eC (.int 0)) (aCons (eC (.int 1)) (aCons (eC (.int 2)) (aCons (eC (.int 3)) (aCons (eC (.int 4)) (aCons (eC (.int 5)) (aCons (eC (.int 6)) (aCons (eC (.int 7)) aNil))))))))) aNil)) (eC (.int 15)))) aNil))))))))))))))
def fn_law : Fn := fnB 14 b_law
theorem ok_law {f : Addr} {fd : FuncData} (T : Tx K mg C) (F : FunD K (PySem.Str.ofString "law") (PySem.Str.ofString "law") (defArgs s_law) (defBody s_law) (defScope s_law) [] [] f fd) (h__law_bar : Has P wo K mg base C (PySem.Str.ofString "_law_bar") 3 5 fn__law_bar) (h__law_draw : Has P wo K mg base C (PySem.Str.ofString "_law_draw") 3 3 fn__law_draw) (h__law_is_text : Has P wo K mg base C (PySem.Str.ofString "_law_is_text") 1 1 fn__law_is_text) (h__law_pick : Has P wo K mg base C (PySem.Str.ofString "_law_pick") 3 4 fn__law_pick) (h__law_told : Has P wo K mg base C (PySem.Str.ofString "_law_told") 2 7 fn__law_told) : FnOk P wo K mg base (L2.CX P wo) 8 f fd [(PySem.Str.ofString "_law_script")] (FnD K C 1 fn_law) :=
  fn_mk (N := [(PySem.Str.ofString "_law_script"), (PySem.Str.ofString "_law_town"), (PySem.Str.ofString "_law_bar_here"), (PySem.Str.ofString "_law_words"), (PySem.Str.ofString "_law_text"), (PySem.Str.ofString "_law_turn"), (PySem.Str.ofString "_law_some"), (PySem.Str.ofString "_law_at"), (PySem.Str.ofString "_law_sign"), (PySem.Str.ofString "_law_spoilt"), (PySem.Str.ofString "_law_told_here"), (PySem.Str.ofString "_law_step"), (PySem.Str.ofString "_law_one_here"), (PySem.Str.ofString "_law_pad")]) (ps := [(PySem.Str.ofString "_law_script")]) (k := 7) F ⟨rfl, rfl, rfl, by decide +kernel, rfl, by decide +kernel, by decide +kernel⟩ fun _ _ _ _ _ _ g =>
    (dss_cons (ds_newOb 1 g (dl_lst da_nil))
    (dss_cons (ds_set 2 g (de_call g h__law_bar (by decide) (da_cons (de_var 0) (da_cons (de_var 1) (da_cons (de_op or_add os_add de_int (de_call g h__law_draw (by decide) (da_cons (de_var 0) (da_cons (de_var 1) (da_cons de_int da_nil))))) da_nil)))))
    (dss_cons (ds_setLc 3 [((PySem.Str.ofString "_law_step"), 11)] g rfl rfl (sw_true rfl rfl rfl (by decide +kernel)) (by decide) (di_walk (de_var 2)) (by kernel_rfl) (fun _ _ _ _ _ => (dg_nm 11 g.nd)) (fun _ _ _ _ _ g => dts_nil) (fun _ _ _ _ _ g => (de_if (dt_cm (op_eqD g.room.units) os_eq (de_var 11) (de_tup da_nil)) de_str (de_join de_str (de_l (dl_lc [((PySem.Str.ofString "_law_pad"), 13)] g (by decide) (di_walk (de_var 11)) (by kernel_rfl) (fun _ _ _ _ _ => (dg_nm 13 g.nd)) (fun _ _ _ _ _ g => dts_nil) (fun _ _ _ _ _ g => (de_callT call_str_int cs_str T.b_str bo_str (da_cons (de_var 13) da_nil)))))))))
    (dss_cons (ds_set 4 g (de_join de_str (de_var 3)))
    (dss_cons (ds_if (dt_w (dw_or (dt_cm (op_neD g.room.units) os_ne (de_call g h__law_told (by decide) (da_cons de_int (da_cons (de_var 2) da_nil))) (de_tup (da_cons de_str (da_cons (de_var 4) da_nil)))) (dw_or1 (dt_cm (op_neD g.room.units) os_ne (de_call g h__law_told (by decide) (da_cons de_int (da_cons (de_var 4) da_nil))) (de_tup (da_cons de_str (da_cons (de_var 2) da_nil))))))) (dss_one (ds_ret de_bool)) dss_nil)
    (dss_cons (ds_for g (di_rng1 T.b_range de_int) (dg_nm 5 g.nd) (dss_cons (ds_set 7 g (de_call g h__law_draw (by decide) (da_cons (de_var 0) (da_cons (de_var 1) (da_cons (de_op or_add os_add (de_callB call_len cs_len T.b_len PySem.boot_len (da_cons (de_var 4) da_nil)) de_int) da_nil)))))
    (dss_cons (ds_set 8 g (de_call g h__law_pick (by decide) (da_cons (de_var 0) (da_cons (de_var 1) (da_cons (de_op or_add os_add (de_l (dl_callT (cr_listStr g.calm) cs_listStr T.b_list bo_list (da_cons de_str da_nil))) (de_l (dl_lst (da_cons de_str (da_cons de_str (da_cons de_str (da_cons de_str (da_cons de_str da_nil)))))))) da_nil)))))
    (dss_cons (ds_set 9 g (de_op or_add os_add (de_op or_add os_add (de_sl (de_var 4) dp_none (dp_some (de_var 7))) (de_var 8)) (de_sl (de_var 4) (dp_some (de_op or_add os_add (de_var 7) (de_call g h__law_draw (by decide) (da_cons (de_var 0) (da_cons (de_var 1) (da_cons de_int da_nil)))))) dp_none)))
    (dss_cons (ds_set 10 g (de_call g h__law_told (by decide) (da_cons de_int (da_cons (de_var 9) da_nil))))
    (dss_one (ds_if (dt_not (dt_tru (de_call g h__law_is_text (by decide) (da_cons (de_var 9) da_nil)))) (dss_one (ds_if (dt_cm (op_neD g.room.units) os_ne (de_var 10) (de_tup (da_cons de_str (da_cons de_str da_nil)))) (dss_one (ds_ret de_bool)) dss_nil)) (dss_one (ds_if (dt_w (dw_or (dt_cm (op_neD g.room.units) os_ne (de_idx (de_var 10) de_int) de_str) (dw_or1 (dt_cm (op_neD g.room.units) os_ne (de_call g h__law_told (by decide) (da_cons de_int (da_cons (de_idx (de_var 10) de_int) da_nil))) (de_tup (da_cons de_str (da_cons (de_var 9) da_nil))))))) (dss_one (ds_ret de_bool)) dss_nil)))))))))
    (dss_cons (ds_set 6 g (de_l (dl_lst (da_cons de_str (da_cons de_str (da_cons de_str (da_cons de_str (da_cons de_str (da_cons de_str (da_cons de_str (da_cons de_str (da_cons de_str (da_cons (de_op or_add os_add de_str (de_op or_mul os_mul de_str de_int)) da_nil)))))))))))))
    (dss_cons (ds_if (dt_cm (op_neD g.room.units) os_ne (de_l (dl_lc [((PySem.Str.ofString "_law_one_here"), 12)] g (by decide) (di_walk (de_var 6)) (by kernel_rfl) (fun _ _ _ _ _ => (dg_nm 12 g.nd)) (fun _ _ _ _ _ g => dts_nil) (fun _ _ _ _ _ g => (de_call g h__law_told (by decide) (da_cons de_int (da_cons (de_var 12) da_nil)))))) (de_op or_mul os_mul (de_l (dl_lst (da_cons (de_tup (da_cons de_str (da_cons de_str da_nil))) da_nil))) de_int)) (dss_one (ds_ret de_bool)) dss_nil)
    (dss_one (ds_ret (de_cm (op_eqD g.room.units) os_eq (de_call g h__law_told (by decide) (da_cons de_int (da_cons (de_op or_add os_add de_str (de_op or_mul os_mul de_str de_int)) da_nil))) (de_tup (da_cons de_str (da_cons (de_op or_add os_add (de_tup (da_cons (de_tup da_nil) da_nil)) (de_op or_mulT os_mulT (de_tup (da_cons (de_tup (da_cons de_int (da_cons de_int (da_cons de_int (da_cons de_int (da_cons de_int (da_cons de_int (da_cons de_int (da_cons de_int da_nil))))))))) da_nil)) de_int)) da_nil))))))))))))))
def df (i : Nat) (x : Str) : He.DefD := ⟨(x, none), x, x, defArgs (top i), defBody (top i), defScope (top i), [], []⟩
def fnl : List He.DefD := [df 10 (PySem.Str.ofString "is_whole"), df 14 (PySem.Str.ofString "is_step"), df 15 (PySem.Str.ofString "is_bar"), df 16 (PySem.Str.ofString "look_bars"), df 20 (PySem.Str.ofString "bar_text"), df 21 (PySem.Str.ofString "written"), df 22 (PySem.Str.ofString "step_in"), df 23 (PySem.Str.ofString "read"), df 25 (PySem.Str.ofString "_law_cell"), df 26 (PySem.Str.ofString "_law_mix"), df 27 (PySem.Str.ofString "_law_draw"), df 28 (PySem.Str.ofString "_law_pick"), df 29 (PySem.Str.ofString "_law_refusal"), df 30 (PySem.Str.ofString "_law_bar"), df 31 (PySem.Str.ofString "_law_one"), df 32 (PySem.Str.ofString "_law_told"), df 33 (PySem.Str.ofString "_law_is_text"), df 34 (PySem.Str.ofString "law")]
def fal : List He.Fa := [.glo (PySem.Str.ofString "is_whole"), .glo (PySem.Str.ofString "is_step"), .glo (PySem.Str.ofString "is_bar"), .glo (PySem.Str.ofString "look_bars"), .glo (PySem.Str.ofString "bar_text"), .glo (PySem.Str.ofString "written"), .glo (PySem.Str.ofString "step_in"), .glo (PySem.Str.ofString "read"), .glo (PySem.Str.ofString "_law_cell"), .glo (PySem.Str.ofString "_law_mix"), .glo (PySem.Str.ofString "_law_draw"), .glo (PySem.Str.ofString "_law_pick"), .glo (PySem.Str.ofString "_law_refusal"), .glo (PySem.Str.ofString "_law_bar"), .glo (PySem.Str.ofString "_law_one"), .glo (PySem.Str.ofString "_law_told"), .glo (PySem.Str.ofString "_law_is_text"), .glo (PySem.Str.ofString "law"), .free (PySem.Str.ofString "ValueError"), .free (PySem.Str.ofString "all"), .free (PySem.Str.ofString "bool"), .free (PySem.Str.ofString "int"), .free (PySem.Str.ofString "isinstance"), .free (PySem.Str.ofString "len"), .free (PySem.Str.ofString "list"), .free (PySem.Str.ofString "range"), .free (PySem.Str.ofString "set"), .free (PySem.Str.ofString "sorted"), .free (PySem.Str.ofString "str"), .free (PySem.Str.ofString "tuple"), .int (PySem.Str.ofString "MOST_PAD") 7, .int (PySem.Str.ofString "MOST_SIZE") 16, .int (PySem.Str.ofString "MOST_BARS") 60, .str (PySem.Str.ofString "FIGURES") (PySem.Str.ofString "01234567"), .str (PySem.Str.ofString "NONE") (PySem.Str.ofString "-"), .glo (PySem.Str.ofString "BadHeard"), .exc (PySem.Str.ofString "BadHeard"), .glo (PySem.Str.ofString "BadNumber"), .exc (PySem.Str.ofString "BadNumber"), .glo (PySem.Str.ofString "BadBars"), .exc (PySem.Str.ofString "BadBars"), .glo (PySem.Str.ofString "BadChain"), .exc (PySem.Str.ofString "BadChain"), .glo (PySem.Str.ofString "TooMany"), .exc (PySem.Str.ofString "TooMany"), .glo (PySem.Str.ofString "BadText"), .exc (PySem.Str.ofString "BadText"), .glo (PySem.Str.ofString "BeatError")]
theorem txOk {h : Heap} (X : K.In h) (G : h.Ns mainGlobals mg) (c : He.SaysD fal fnl K) (e : (exB 6) K = true) : Tx K mg (exAd K) where
  b_ValueError := He.free_ok X G (c.fact 18 (f := .free (PySem.Str.ofString "ValueError")) rfl)
  b_all := He.free_ok X G (c.fact 19 (f := .free (PySem.Str.ofString "all")) rfl)
  b_bool := He.free_ok X G (c.fact 20 (f := .free (PySem.Str.ofString "bool")) rfl)
  b_int := He.free_ok X G (c.fact 21 (f := .free (PySem.Str.ofString "int")) rfl)
  b_isinstance := He.free_ok X G (c.fact 22 (f := .free (PySem.Str.ofString "isinstance")) rfl)
  b_len := He.free_ok X G (c.fact 23 (f := .free (PySem.Str.ofString "len")) rfl)
  b_list := He.free_ok X G (c.fact 24 (f := .free (PySem.Str.ofString "list")) rfl)
  b_range := He.free_ok X G (c.fact 25 (f := .free (PySem.Str.ofString "range")) rfl)
  b_set := He.free_ok X G (c.fact 26 (f := .free (PySem.Str.ofString "set")) rfl)
  b_sorted := He.free_ok X G (c.fact 27 (f := .free (PySem.Str.ofString "sorted")) rfl)
  b_str := He.free_ok X G (c.fact 28 (f := .free (PySem.Str.ofString "str")) rfl)
  b_tuple := He.free_ok X G (c.fact 29 (f := .free (PySem.Str.ofString "tuple")) rfl)
  c_MOST_PAD := He.int_ok X G (c.fact 30 (f := .int (PySem.Str.ofString "MOST_PAD") 7) rfl)
  c_MOST_SIZE := He.int_ok X G (c.fact 31 (f := .int (PySem.Str.ofString "MOST_SIZE") 16) rfl)
  c_MOST_BARS := He.int_ok X G (c.fact 32 (f := .int (PySem.Str.ofString "MOST_BARS") 60) rfl)
  c_FIGURES := He.str_ok X G (c.fact 33 (f := .str (PySem.Str.ofString "FIGURES") (PySem.Str.ofString "01234567")) rfl)
  c_NONE := He.str_ok X G (c.fact 34 (f := .str (PySem.Str.ofString "NONE") (PySem.Str.ofString "-")) rfl)
  x_BadHeard := exF_ok X G 0 rfl (c.fact 36 (f := .exc (PySem.Str.ofString "BadHeard")) rfl) (c.fact 35 (f := .glo (PySem.Str.ofString "BadHeard")) rfl)
  x_BadNumber := exF_ok X G 1 rfl (c.fact 38 (f := .exc (PySem.Str.ofString "BadNumber")) rfl) (c.fact 37 (f := .glo (PySem.Str.ofString "BadNumber")) rfl)
  x_BadBars := exF_ok X G 2 rfl (c.fact 40 (f := .exc (PySem.Str.ofString "BadBars")) rfl) (c.fact 39 (f := .glo (PySem.Str.ofString "BadBars")) rfl)
  x_BadChain := exF_ok X G 3 rfl (c.fact 42 (f := .exc (PySem.Str.ofString "BadChain")) rfl) (c.fact 41 (f := .glo (PySem.Str.ofString "BadChain")) rfl)
  x_TooMany := exF_ok X G 4 rfl (c.fact 44 (f := .exc (PySem.Str.ofString "TooMany")) rfl) (c.fact 43 (f := .glo (PySem.Str.ofString "TooMany")) rfl)
  x_BadText := exF_ok X G 5 rfl (c.fact 46 (f := .exc (PySem.Str.ofString "BadText")) rfl) (c.fact 45 (f := .glo (PySem.Str.ofString "BadText")) rfl)
  g_BeatError := He.glo_ok X G (c.fact 47 (f := .glo (PySem.Str.ofString "BeatError")) rfl)
  ek := (exB_ok e).1
  em := (exB_ok e).2
theorem lawF (P : Program) (w : World) (K : PySem.W.Frag) (mg : Str → Option Value) (h : Heap) (X : K.In h) (G : h.Ns mainGlobals mg) (c : He.SaysD fal fnl K) (e : (exB 6) K = true) :
    ∃ (fa : Addr) (fd : FuncData), mg "law" = some (.ref fa) ∧ (∀ (s : Shared) (u : Value), BindsTo s fd ⟨[u], []⟩ [("_law_script", u)]) ∧ ∀ base : Heap, FnOk P w K mg base (L2.CX P w) 8 fa fd ["_law_script"] (FnD K (exAd K) 1 fn_law) := by
  have T := txOk X G c e
  obtain ⟨d0, F0⟩ := c.def_ 0 (d := df 10 (PySem.Str.ofString "is_whole")) rfl
  obtain ⟨d1, F1⟩ := c.def_ 1 (d := df 14 (PySem.Str.ofString "is_step")) rfl
  obtain ⟨d2, F2⟩ := c.def_ 2 (d := df 15 (PySem.Str.ofString "is_bar")) rfl
  obtain ⟨d3, F3⟩ := c.def_ 3 (d := df 16 (PySem.Str.ofString "look_bars")) rfl
  obtain ⟨d4, F4⟩ := c.def_ 4 (d := df 20 (PySem.Str.ofString "bar_text")) rfl
  obtain ⟨d5, F5⟩ := c.def_ 5 (d := df 21 (PySem.Str.ofString "written")) rfl
  obtain ⟨d6, F6⟩ := c.def_ 6 (d := df 22 (PySem.Str.ofString "step_in")) rfl
  obtain ⟨d7, F7⟩ := c.def_ 7 (d := df 23 (PySem.Str.ofString "read")) rfl
  obtain ⟨d8, F8⟩ := c.def_ 8 (d := df 25 (PySem.Str.ofString "_law_cell")) rfl
  obtain ⟨d9, F9⟩ := c.def_ 9 (d := df 26 (PySem.Str.ofString "_law_mix")) rfl
  obtain ⟨d10, F10⟩ := c.def_ 10 (d := df 27 (PySem.Str.ofString "_law_draw")) rfl
  obtain ⟨d11, F11⟩ := c.def_ 11 (d := df 28 (PySem.Str.ofString "_law_pick")) rfl
  obtain ⟨d12, F12⟩ := c.def_ 12 (d := df 29 (PySem.Str.ofString "_law_refusal")) rfl
  obtain ⟨d13, F13⟩ := c.def_ 13 (d := df 30 (PySem.Str.ofString "_law_bar")) rfl
  obtain ⟨d14, F14⟩ := c.def_ 14 (d := df 31 (PySem.Str.ofString "_law_one")) rfl
  obtain ⟨d15, F15⟩ := c.def_ 15 (d := df 32 (PySem.Str.ofString "_law_told")) rfl
  obtain ⟨d16, F16⟩ := c.def_ 16 (d := df 33 (PySem.Str.ofString "_law_is_text")) rfl
  obtain ⟨d17, F17⟩ := c.def_ 17 (d := df 34 (PySem.Str.ofString "law")) rfl
  have b := FunD.bindsA (ps := ["_law_script"]) F17 fun _ _ _ _ _ _ us hl => match us, hl with | [_], _ => rfl
  refine ⟨_, d17, He.glo_ok X G (c.fact 17 (f := .glo (PySem.Str.ofString "law")) rfl), fun s v => b s [v] rfl, fun base => ?_⟩
  have h_is_whole : Has P w K mg base (exAd K) (PySem.Str.ofString "is_whole") 3 1 fn_is_whole := has_is_whole T F0 (He.glo_ok X G (c.fact 0 (f := .glo (PySem.Str.ofString "is_whole")) rfl)) 
  have h_is_step : Has P w K mg base (exAd K) (PySem.Str.ofString "is_step") 1 2 fn_is_step := has_is_step T F1 (He.glo_ok X G (c.fact 1 (f := .glo (PySem.Str.ofString "is_step")) rfl)) h_is_whole
  have h_is_bar : Has P w K mg base (exAd K) (PySem.Str.ofString "is_bar") 1 3 fn_is_bar := has_is_bar T F2 (He.glo_ok X G (c.fact 2 (f := .glo (PySem.Str.ofString "is_bar")) rfl)) h_is_step
  have h_look_bars : Has P w K mg base (exAd K) (PySem.Str.ofString "look_bars") 1 4 fn_look_bars := has_look_bars T F3 (He.glo_ok X G (c.fact 3 (f := .glo (PySem.Str.ofString "look_bars")) rfl)) h_is_bar
  have h_bar_text : Has P w K mg base (exAd K) (PySem.Str.ofString "bar_text") 1 1 fn_bar_text := has_bar_text T F4 (He.glo_ok X G (c.fact 4 (f := .glo (PySem.Str.ofString "bar_text")) rfl)) 
  have h_written : Has P w K mg base (exAd K) (PySem.Str.ofString "written") 1 5 fn_written := has_written T F5 (He.glo_ok X G (c.fact 5 (f := .glo (PySem.Str.ofString "written")) rfl)) h_bar_text h_look_bars
  have h_step_in : Has P w K mg base (exAd K) (PySem.Str.ofString "step_in") 1 1 fn_step_in := has_step_in T F6 (He.glo_ok X G (c.fact 6 (f := .glo (PySem.Str.ofString "step_in")) rfl)) 
  have h_read : Has P w K mg base (exAd K) (PySem.Str.ofString "read") 1 4 fn_read := has_read T F7 (He.glo_ok X G (c.fact 7 (f := .glo (PySem.Str.ofString "read")) rfl)) h_bar_text h_is_bar h_step_in
  have h__law_cell : Has P w K mg base (exAd K) (PySem.Str.ofString "_law_cell") 2 1 fn__law_cell := has__law_cell T F8 (He.glo_ok X G (c.fact 8 (f := .glo (PySem.Str.ofString "_law_cell")) rfl)) 
  have h__law_mix : Has P w K mg base (exAd K) (PySem.Str.ofString "_law_mix") 2 2 fn__law_mix := has__law_mix T F9 (He.glo_ok X G (c.fact 9 (f := .glo (PySem.Str.ofString "_law_mix")) rfl)) h__law_cell
  have h__law_draw : Has P w K mg base (exAd K) (PySem.Str.ofString "_law_draw") 3 3 fn__law_draw := has__law_draw T F10 (He.glo_ok X G (c.fact 10 (f := .glo (PySem.Str.ofString "_law_draw")) rfl)) h__law_mix
  have h__law_pick : Has P w K mg base (exAd K) (PySem.Str.ofString "_law_pick") 3 4 fn__law_pick := has__law_pick T F11 (He.glo_ok X G (c.fact 11 (f := .glo (PySem.Str.ofString "_law_pick")) rfl)) h__law_draw
  have h__law_refusal : Has P w K mg base (exAd K) (PySem.Str.ofString "_law_refusal") 1 1 fn__law_refusal := has__law_refusal T F12 (He.glo_ok X G (c.fact 12 (f := .glo (PySem.Str.ofString "_law_refusal")) rfl)) 
  have h__law_bar : Has P w K mg base (exAd K) (PySem.Str.ofString "_law_bar") 3 5 fn__law_bar := has__law_bar T F13 (He.glo_ok X G (c.fact 13 (f := .glo (PySem.Str.ofString "_law_bar")) rfl)) h__law_draw h__law_pick
  have h__law_one : Has P w K mg base (exAd K) (PySem.Str.ofString "_law_one") 2 6 fn__law_one := has__law_one T F14 (He.glo_ok X G (c.fact 14 (f := .glo (PySem.Str.ofString "_law_one")) rfl)) h_read h_written
  have h__law_told : Has P w K mg base (exAd K) (PySem.Str.ofString "_law_told") 2 7 fn__law_told := has__law_told T F15 (He.glo_ok X G (c.fact 15 (f := .glo (PySem.Str.ofString "_law_told")) rfl)) h__law_one h__law_refusal
  have h__law_is_text : Has P w K mg base (exAd K) (PySem.Str.ofString "_law_is_text") 1 1 fn__law_is_text := has__law_is_text T F16 (He.glo_ok X G (c.fact 16 (f := .glo (PySem.Str.ofString "_law_is_text")) rfl)) 
  exact ok_law T F17 h__law_bar h__law_draw h__law_is_text h__law_pick h__law_told
end
abbrev rR : PySem.W.OpenRow := PySem.W.OpenLaw.row PySem.Challenge.rw_beatfinds_k41_texts
abbrev hkx : PySem.W.Hook := He.hookX 4 fal fnl [] [] (exB 6)
def obx (s : PySem.W.SharedT) : He.AlX := He.obsX 4 fal fnl [] [] (exB 6) (HandSHeadRun.getT s)
theorem obx_eq (s : PySem.W.SharedT) : obx s = hkx.obs s.abs := He.obsX_eq (HandSHeadRun.getT_eq s)
def loosex : List Str := ([(PySem.Str.ofString "BeatError"), (PySem.Str.ofString "BadHeard"), (PySem.Str.ofString "BadNumber"), (PySem.Str.ofString "BadBars"), (PySem.Str.ofString "BadChain"), (PySem.Str.ofString "TooMany"), (PySem.Str.ofString "BadText"), (PySem.Str.ofString "is_whole"), (PySem.Str.ofString "is_step"), (PySem.Str.ofString "is_bar"), (PySem.Str.ofString "look_bars"), (PySem.Str.ofString "bar_text"), (PySem.Str.ofString "written"), (PySem.Str.ofString "step_in"), (PySem.Str.ofString "read"), (PySem.Str.ofString "_law_cell"), (PySem.Str.ofString "_law_mix"), (PySem.Str.ofString "_law_draw"), (PySem.Str.ofString "_law_pick"), (PySem.Str.ofString "_law_refusal"), (PySem.Str.ofString "_law_bar"), (PySem.Str.ofString "_law_one"), (PySem.Str.ofString "_law_told"), (PySem.Str.ofString "_law_is_text"), (PySem.Str.ofString "MOST_PAD"), (PySem.Str.ofString "MOST_SIZE"), (PySem.Str.ofString "MOST_BARS"), (PySem.Str.ofString "FIGURES"), (PySem.Str.ofString "NONE"), (PySem.Str.ofString "__name__")] : List Str)
theorem runx (w : World) : HandSHeadRun.RunEq rR (PySem.W.view rR.prog [34]) hkx obx 6000 loosex w := by
  intro os
  kernel_rfl
open PySem PySem.W PySem.Calls PyProof.Rows in
theorem final (law_true : ∀ ns : List Int, ns.length ≤ 63 → ∃ st, fn_law [D.scr ns] [] = .ok (.bool true) st) : PySem.Challenge.rw_beatfinds_k41_texts.Holds := by
  w_on; o_law
  refine HandSHeadRun.head_any (r := OpenLaw.row PySem.Challenge.rw_beatfinds_k41_texts) (q := view (OpenLaw.row PySem.Challenge.rw_beatfinds_k41_texts).prog [34]) (H := hkx) (ob := obx) (M := 6000) (loose := loosex) (d := HandSHeadRun.topDef (OpenLaw.row PySem.Challenge.rw_beatfinds_k41_texts).prog 34) (kwd := []) obx_eq
    (by kernel_rfl) (fun s => by kernel_rfl) runx (by kernel_rfl) (by kernel_rfl) (by kernel_rfl) (by rfl) (by first | assumption | decide +kernel) (by decide +kernel) ⟨rfl, rfl, rfl, rfl, rfl, by decide +kernel⟩ ?hw ?hc
  case hw => w_witness2
  case hc =>
    exact BF.walk_us (x := "_law_script") (nm := "law") (fn := fn_law) rfl rfl (by kernel_rfl) ⟨rfl, by decide, by decide⟩ (fun w K mg h => lawF _ w K mg h) law_true


open PySem.W
--XS{
local macro_rules | `(tactic| simp_arith [$xs,*]) => `(tactic| simp only [x_seq, SO.thn_nx, SO.thn_rt, SO.thn_err, SO.ofE_ok, SO.ofE_err, EO.bnd_ok, EO.bnd_err, EO.ofO_some, x_set, x_tp, x_ret, x_drop, x_if, x_skip, x_raise, x_own, x_new0, x_ice, x_iceO, x_iceV, x_var, x_c, x_lift1, x_lift2, x_liftT, x_tv, x_tru, x_not, x_and, x_or, x_ite, x_bV, x_nil, x_cons, x_call, x_callG, x_lst, x_tup, x_chk, x_walk, x_addL, x_methS, x_noP, x_someP, x_sl, x_ss, x_ssX, x_up, x_appU, x_extU, x_par, x_if1, x_if0, x_lcE, x_for, x_setN, x_setT, x_sa0, x_saS, x_wipe0, x_wipeS, x_keep, z_addI, z_sub, z_lenL, z_lenT, z_tupL, z_itemsL, z_itemsT, z_truB, z_isStr, Nat.zero_le, z_gtI, z_isN, z_eqI, z_neI, List.getElem?_cons_zero, List.getElem?_cons_succ, List.set_cons_zero, List.set_cons_succ, List.length_cons, List.length_nil, Nat.zero_add, Nat.reduceAdd, Nat.reduceLeDiff, Nat.reduceLT, Option.bind_some, if_true, if_false, Bool.not_true, Bool.not_false, reduceCtorEq, Bool.false_eq_true, $xs,*])
local macro_rules | `(tactic| simp_arith [$xs,*] at $h:ident) => `(tactic| simp only [x_seq, SO.thn_nx, SO.thn_rt, SO.thn_err, SO.ofE_ok, SO.ofE_err, EO.bnd_ok, EO.bnd_err, EO.ofO_some, x_set, x_tp, x_ret, x_drop, x_if, x_skip, x_raise, x_own, x_new0, x_ice, x_iceO, x_iceV, x_var, x_c, x_lift1, x_lift2, x_liftT, x_tv, x_tru, x_not, x_and, x_or, x_ite, x_bV, x_nil, x_cons, x_call, x_callG, x_lst, x_tup, x_chk, x_walk, x_addL, x_methS, x_noP, x_someP, x_sl, x_ss, x_ssX, x_up, x_appU, x_extU, x_par, x_if1, x_if0, x_lcE, x_for, x_setN, x_setT, x_sa0, x_saS, x_wipe0, x_wipeS, x_keep, z_addI, z_sub, z_lenL, z_lenT, z_tupL, z_itemsL, z_itemsT, z_truB, z_isStr, Nat.zero_le, z_gtI, z_isN, z_eqI, z_neI, List.getElem?_cons_zero, List.getElem?_cons_succ, List.set_cons_zero, List.set_cons_succ, List.length_cons, List.length_nil, Nat.zero_add, Nat.reduceAdd, Nat.reduceLeDiff, Nat.reduceLT, Option.bind_some, if_true, if_false, Bool.not_true, Bool.not_false, reduceCtorEq, Bool.false_eq_true, $xs,*] at $h:ident)
--XS}
theorem e_told : fn__law_told = toldF fn__law_one := rfl
theorem one0 (d : D) (st : Sto) {t : D} (h : fn_written [d] st = .ok t st) : fn__law_one [.int 0, d] st = .ok t st := by
  refine fnB_rt ?_
  show b__law_one [.val (.int 0), .val d] st = _
  unfold b__law_one
  simp_arith [h, decide_true]
theorem one1 (d : D) (st : Sto) {t : D} (h : fn_read [d] st = .ok t st) : fn__law_one [.int 1, d] st = .ok t st := by
  refine fnB_rt ?_
  show b__law_one [.val (.int 1), .val d] st = _
  unfold b__law_one
  simp_arith [h, show decide ((1 : Int) = 0) = false from rfl]
theorem one1e (d : D) (st : Sto) {c : Nat} (h : fn_read [d] st = .err c st) : fn__law_one [.int 1, d] st = .err c st := by
  refine fnB_err (ρ := [.val (.int 1), .val d]) ?_
  show b__law_one [.val (.int 1), .val d] st = _
  unfold b__law_one
  simp_arith [h, show decide ((1 : Int) = 0) = false from rfl]
theorem told_w {n : Nat} {b : Bar} (h : GoodB n b) (h1 : 1 ≤ n) (hn : n ≤ 16) (st : Sto) : fn__law_told [.int 0, toD b] st = .ok (fndD (.str (barTx b))) st := by
  rw [e_told]; exact told_ok (one0 _ _ (written_eq h h1 hn st))
theorem told_r {x : Str} (hx : Asc x) (hz : x.length ≤ 1000) (hw : WB 60 (cs x)) (st : Sto) : fn__law_told [.int 1, .str x] st = .ok (if isTx x = true then fndD (toD (barOf x)) else refD 5) st := by
  have h := read_eq hx (by omega) hw st
  rw [e_told]
  by_cases q : isTx x = true
  · rw [if_pos q] at h ⊢; exact told_ok (one1 _ _ h)
  · rw [if_neg q] at h ⊢; exact told_err (by decide) (one1e _ _ h)
theorem okF : PyData.strOk (PySem.Str.ofString "found") = true := by decide +kernel
theorem fnd_ne {α : Type} [DecidableEq α] [Datum α] (a b : α) (ha : SeqAt.shaped (fndD (toD a)) = true) (hb : SeqAt.shaped (fndD (toD b)) = true) : gNe (fndD (toD a)) (fndD (toD b)) = some (!decide (a = b)) := by
  show (if _ then _ else _) = _
  rw [ha, hb]
  have : PyData.eqv (fndD (toD a)) (fndD (toD b)) = decide (a = b) := (Datum.eqv (PySem.Str.ofString "found", a) (PySem.Str.ofString "found", b)).trans (decide_eq_decide.mpr (by simp))
  rw [this]; rfl
theorem sh_s {x : Str} (h : PyData.strOk x = true) : SeqAt.shaped (fndD (.str x)) = true := by
  unfold SeqAt.shaped
  show (((PyData.strOk _) && ((PyData.strOk x) && true)) && decide _) = true
  rw [okF, h]; rfl
theorem sh_b (b : Bar) : SeqAt.shaped (fndD (toD b)) = true := by
  unfold SeqAt.shaped
  show (((PyData.strOk _) && ((PyData.canLay0 (toD b)) && true)) && decide (max 0 (max (toD b).depth 0) + 1 ≤ 64)) = true
  rw [okF, Lay.lay b]
  have := Datum.depth_le b
  have h2 := Lay.small (α := Bar)
  rw [decide_eq_true (by show max 0 (max (toD b).depth 0) + 1 ≤ 64; unfold toD; omega)]; rfl
theorem ne_s {x : Str} (h : PyData.strOk x = true) : gNe (fndD (.str x)) (.tuple [.str (PySem.Str.ofString "found"), .str x]) = some false := by
  have := fnd_ne x x (sh_s h) (sh_s h)
  rw [decide_eq_true rfl] at this; exact this
theorem ne_b (b : Bar) : gNe (fndD (toD b)) (.tuple [.str (PySem.Str.ofString "found"), toD b]) = some false := by
  have := fnd_ne b b (sh_b b) (sh_b b)
  rw [decide_eq_true rfl] at this; exact this
theorem cut_ok (x : Str) (lo hi : Option Int) : ∃ a b, cs (cutS x lo hi) = ((cs x).drop a).take b := ⟨_, _, rfl⟩
theorem z_sl {x : Str} {lo hi : Option Int} (h : x.length ≤ 1000) : gSl (.str x) lo hi = some (.str (cutS x lo hi)) := by
  show (if x.length ≤ sizeLine then _ else _) = _
  rw [if_pos (by rw [sizeLine_eq]; omega)]
theorem Asc.cut {x : Str} (h : Asc x) (lo hi : Option Int) : Asc (cutS x lo hi) := fun c hc => by
  obtain ⟨a, b, e⟩ := cut_ok x lo hi
  rw [e] at hc
  exact h c (List.mem_of_mem_drop (List.mem_of_mem_take hc))
theorem WB.cut {k : Nat} {x : Str} (h : WB k (cs x)) (lo hi : Option Int) : WB k (cs (cutS x lo hi)) := by
  obtain ⟨a, b, e⟩ := cut_ok x lo hi
  rw [e]; exact (h.drop a).take b
theorem len_cut {k : Nat} {x : Str} (h : x.length ≤ k) (lo hi : Option Int) : (cutS x lo hi).length ≤ k := by
  obtain ⟨a, b, e⟩ := cut_ok x lo hi
  rw [cs_ln] at h ⊢
  rw [e, List.length_take, List.length_drop]; omega
/-! ### the bar's own text -/
theorem words_eq {n : Nat} {b : Bar} (h : GoodB n b) {s0 s1 s3 s4 s5 s6 s7 s8 s9 s10 : Slot} (st : Sto) : lc_law_3 [s0, s1, .val (toD b), s3, s4, s5, s6, s7, s8, s9, s10, .emp, .emp, .emp] st = .ok ((b.items.map stepTx).map .str) st := by
  rw [List.map_map]
  refine lc_all (fun s : BF.Step => toD s) b.items (fun s => .str (stepTx s)) rfl fun s hs => ⟨_, rfl, ?_⟩
  have hg := h.2 s hs
  have e0 : gEq (toD s) (.tuple []) = some (decide (s = ⟨[]⟩)) := gEq_toD s (⟨[]⟩ : BF.Step)
  by_cases he : s.items = []
  · rw [decide_eq_true (by cases s; simp at he; rw [he])] at e0
    simp_arith [e0]
    unfold stepTx; rw [if_pos he]
  · rw [decide_eq_false (fun q => he (by rw [q]))] at e0
    have e1 : lc_law_2 [s0, s1, .val (toD b), s3, s4, s5, s6, s7, s8, s9, s10, .val (toD s), .emp, .emp] st = .ok ((s.items.map fun m => sg (48 + m.toNat)).map .str) st := by
      rw [List.map_map]
      refine lc_all (fun m : Int => PyData.int m) s.items (fun m => .str (sg (48 + m.toNat))) rfl fun m hm => ⟨_, rfl, ?_⟩
      simp_arith [str_dig (hg.2 m hm)]
    have e3 : gJoin (.str (PySem.Str.ofString "")) (.list ((s.items.map fun m => sg (48 + m.toNat)).map .str)) = some (.str (stepTx s)) := by
      have := join_w (l := s.items.map fun m => 48 + m.toNat) (by rw [List.length_map]; have := hg.len; omega)
      rw [List.map_map] at this
      rw [List.map_map]
      refine this.trans ?_
      unfold stepTx; rw [if_neg he]
    simp_arith [e0, e1, e3]
theorem join_bar {n : Nat} {b : Bar} (h : GoodB n b) (hn : n ≤ 16) : gJoin (.str (PySem.Str.ofString ".")) (.list ((b.items.map stepTx).map .str)) = some (.str (barTx b)) := by
  rw [z_join]; rfl
  have := sum_le (f := fun x : Str => x.length) (k := 8) (l := b.items.map stepTx) (fun x hx => by
    obtain ⟨s, hs, rfl⟩ := List.mem_map.mp hx
    exact stepTx_len (h.2 s hs))
  have h8 := h.1
  rw [List.length_map] at this ⊢
  rw [cs_ln (PySem.Str.ofString "."), cs_dot]
  simp only [List.length_cons, List.length_nil]; omega
/-! ### the texts bent -/
def putsS : List Str := ["0", "1", "7", "8", ".", "-", " ", "a", "", "--", "..", "01", "10"].map PySem.Str.ofString
theorem putsS_ok : (putsS.all fun s => (cs s).all (fun c => decide (c < 128)) && decide (s.length ≤ 2)) = true := by decide +kernel
theorem putsS_of {d : D} (h : d ∈ putsS.map PyData.str) : ∃ s : Str, d = .str s ∧ Asc s ∧ s.length ≤ 2 := by
  obtain ⟨s, hs, rfl⟩ := List.mem_map.mp h
  have := List.all_eq_true.mp putsS_ok s hs
  simp only [Bool.and_eq_true, List.all_eq_true, decide_eq_true_eq] at this
  exact ⟨s, rfl, this.1, this.2⟩
theorem puts_eq (ρ : Slots) (st : Sto) : lift2 gAdd (lstV (callG gListStr (aCons (eC (.str (PySem.Str.ofString "0178.- a"))) aNil))) (lstV (chk (aCons (eC (.str (PySem.Str.ofString ""))) (aCons (eC (.str (PySem.Str.ofString "--"))) (aCons (eC (.str (PySem.Str.ofString ".."))) (aCons (eC (.str (PySem.Str.ofString "01"))) (aCons (eC (.str (PySem.Str.ofString "10"))) aNil))))))) ρ st = .ok (.list (putsS.map PyData.str)) st := by kernel_rfl
theorem refd_ne : gNe (refD 5) (.tuple [.str (PySem.Str.ofString "refused"), .str (PySem.Str.ofString "text")]) = some false := by kernel_rfl
theorem fnd0 (d : D) : gIdx (fndD d) (.int 0) = some (.str (PySem.Str.ofString "found")) := rfl
theorem fnd1 (d : D) : gIdx (fndD d) (.int 1) = some d := rfl
theorem fnd_s : gNe (.str (PySem.Str.ofString "found")) (.str (PySem.Str.ofString "found")) = some false := by kernel_rfl
theorem turn {ns : List Int} {n m : Nat} {b : Bar} {ws : D} {t : Str} {s5 s6 s7 s8 s9 s10 s11 s12 s13 : Slot} (hn : m + 10 < 16777216) (ht : Asc t) (hl : t.length ≤ 144) (hwb : WB 8 (cs t)) :
    ∃ s7' s8' s9' s10', bd_law_1 [.val (D.scr ns), .val (D.ob 0), .val (toD b), .val ws, .val (.str t), s5, s6, s7, s8, s9, s10, s11, s12, s13] [tw m] = .nx [.val (D.scr ns), .val (D.ob 0), .val (toD b), .val ws, .val (.str t), s5, s6, s7', s8', s9', s10', s11, s12, s13] [tw (m + 3)] := by
  obtain ⟨v, v0, v1, hv⟩ := draw_ok ns (n := m) (m := (t.length : Int) + 1) [] (by omega) (by omega)
  obtain ⟨d, hd, hp⟩ := pick_ok ns (n := m + 1) (ds := putsS.map PyData.str) [] (by simp [putsS]) (by omega)
  obtain ⟨s, rfl, sa, sl⟩ := putsS_of hd
  obtain ⟨u, u0, u1, hu⟩ := draw_ok ns (n := m + 2) (m := 2) [] (by omega) (by omega)
  have c1 := z_sl (x := t) (lo := none) (hi := some v) (by omega)
  have c2 := z_sl (x := t) (lo := some (v + u)) (hi := none) (by omega)
  have l1 := len_cut hl none (some v)
  have l2 := len_cut hl (some (v + u)) none
  have a1 : gAdd (.str (cutS t none (some v))) (.str s) = some (.str (cutS t none (some v) ++ s)) := z_addS (by omega)
  have l3 : (cutS t none (some v) ++ s).length ≤ 146 := by rw [cs_ln, cs_app, List.length_append, ← cs_ln, ← cs_ln]; omega
  have a2 : gAdd (.str (cutS t none (some v) ++ s)) (.str (cutS t (some (v + u)) none)) = some (.str (cutS t none (some v) ++ s ++ cutS t (some (v + u)) none)) := z_addS (by omega)
  have hlen := z_lenS (x := t) (by omega)
  generalize hx : cutS t none (some v) ++ s ++ cutS t (some (v + u)) none = x at a2
  have xa : Asc x := by rw [← hx]; exact (((Asc.cut ht _ _).app sa).app (Asc.cut ht _ _))
  have xl : x.length ≤ 1000 := by rw [← hx, cs_ln, cs_app, List.length_append, ← cs_ln, ← cs_ln]; omega
  have xw : WB 60 (cs x) := by
    rw [← hx, cs_app, cs_app]
    refine WB.mono (((WB.cut hwb _ _).app (WB.mono (WB.len (l := cs s)) (k := (cs s).length) (j := 2) (by rw [← cs_ln]; exact sl))).app (WB.cut hwb _ _)) (by omega)
  have tr := told_r xa xl xw [tw (m + 3)]
  have it := is_text_eq xa xl [tw (m + 3)]
  refine ⟨.val (.int v), .val (.str s), .val (.str x), .val (if isTx x = true then fndD (toD (barOf x)) else refD 5), ?_⟩
  unfold bd_law_1
  have pe := puts_eq
  generalize lift2 gAdd (lstV (callG gListStr (aCons (eC (.str (PySem.Str.ofString "0178.- a"))) aNil))) (lstV (chk (aCons (eC (.str (PySem.Str.ofString ""))) (aCons (eC (.str (PySem.Str.ofString "--"))) (aCons (eC (.str (PySem.Str.ofString ".."))) (aCons (eC (.str (PySem.Str.ofString "01"))) (aCons (eC (.str (PySem.Str.ofString "10"))) aNil))))))) = PP at pe ⊢
  have hp : fn__law_pick [D.scr ns, D.ob 0, .list (putsS.map PyData.str)] [tw (m + 1)] = .ok (.str s) [tw (m + 2)] := hp
  have hu : fn__law_draw [D.scr ns, D.ob 0, .int 2] [tw (m + 2)] = .ok (.int u) [tw (m + 3)] := hu
  by_cases q : isTx x = true
  · obtain ⟨g, g2, g3⟩ := isTx_good q
    have tw' := told_w g (wds_pos x) g2 [tw (m + 3)]
    rw [g3] at tw'
    have nn := ne_s xa.ok
    rw [q] at it
    rw [if_pos q] at tr ⊢
    simp_arith [hlen, hv, pe, hp, c1, hu, c2, a1, a2, tr, it, fnd0, fnd1, fnd_s, tw', nn]
  · rw [show isTx x = false by simpa using q] at it
    rw [if_neg q] at tr ⊢
    simp_arith [hlen, hv, pe, hp, c1, hu, c2, a1, a2, tr, it, refd_ne]
/-! ### texts that are none -/
def badS' : List Str := ["", ".", "8", "-.", ".-", "00", "10", "0-", " ", "-.-.-.-.-.-.-.-.-.-.-.-.-.-.-.-.-"].map PySem.Str.ofString
theorem bads_ok : (badS'.all fun s => (cs s).all (fun c => decide (c < 128)) && (decide (s.length ≤ 60) && !isTx s)) = true := by decide +kernel
theorem bads_eq (ρ : Slots) (st : Sto) : chk (aCons (eC (.str (PySem.Str.ofString ""))) (aCons (eC (.str (PySem.Str.ofString "."))) (aCons (eC (.str (PySem.Str.ofString "8"))) (aCons (eC (.str (PySem.Str.ofString "-."))) (aCons (eC (.str (PySem.Str.ofString ".-"))) (aCons (eC (.str (PySem.Str.ofString "00"))) (aCons (eC (.str (PySem.Str.ofString "10"))) (aCons (eC (.str (PySem.Str.ofString "0-"))) (aCons (eC (.str (PySem.Str.ofString " "))) (aCons (lift2 gAdd (eC (.str (PySem.Str.ofString "-"))) (lift2 gMul (eC (.str (PySem.Str.ofString ".-"))) (eC (.int 16)))) aNil)))))))))) ρ st = .ok (badS'.map PyData.str) st := by kernel_rfl
theorem bads_told {ρ : Slots} (h : ρ[6]? = some (.val (.list (badS'.map PyData.str)))) (hl : ρ.length = 14) (st : Sto) : lc_law_1 ρ st = .ok (badS'.map fun _ => refD 5) st := by
  refine lc_all PyData.str badS' (fun _ => refD 5) ?_ fun s hs => ⟨_, rfl, ?_⟩
  · unfold walk eVar; rw [h]; rfl
  · have := List.all_eq_true.mp bads_ok s hs
    simp only [Bool.and_eq_true, List.all_eq_true, decide_eq_true_eq, Bool.not_eq_true'] at this
    have t := told_r (x := s) this.1 (by omega) (WB.mono WB.len (by rw [← cs_ln]; exact this.2.1)) st
    rw [this.2.2] at t
    have e12 : ((ρ.set 12 .emp).set 12 (.val (.str s)))[12]? = some (.val (.str s)) := by simp [hl]
    rw [if_neg (by simp)] at t
    simp_arith [e12, t]
theorem bads_mul : gMul (.list [.tuple [.str (PySem.Str.ofString "refused"), .str (PySem.Str.ofString "text")]]) (.int 10) = some (.list (badS'.map fun _ => refD 5)) := by kernel_rfl
theorem bads_ne : gNe (.list (badS'.map fun _ => refD 5)) (.list (badS'.map fun _ => refD 5)) = some false := by kernel_rfl
theorem bar_tx {size : Nat} {b : Bar} (hb : GoodB size b) (s1 : 1 ≤ size) (s2 : size ≤ 16) : isTx (barTx b) = true ∧ barOf (barTx b) = b := by
  have e := barTx_wds hb s1
  have hso : ∀ s : BF.Step, GoodS s → stepOf (stepTx s) = s := fun s hg => by
    unfold stepOf stepTx
    by_cases he : s.items = []
    · rw [if_pos he, if_pos rfl]; cases s; simp at he; rw [he]
    · rw [if_neg he, if_neg (fun q => by
        have := congrArg cs q
        rw [cs_ofC, cs_dash] at this
        cases hi : s.items with
        | nil => exact he hi
        | cons x r => rw [hi] at this; simp at this; omega)]
      cases s with
      | mk l =>
        congr 1
        show (l.map fun m => 48 + m.toNat).map (fun c : Nat => (c : Int) - 48) = l
        rw [List.map_map]
        have : ∀ l : List Int, (∀ m ∈ l, 0 ≤ m) → l.map ((fun c : Nat => (c : Int) - 48) ∘ fun m : Int => 48 + m.toNat) = l := by
          intro l
          induction l with
          | nil => exact fun _ => rfl
          | cons x l ih =>
            intro hl
            have := hl x (by simp)
            rw [List.map_cons, ih fun d hd => hl d (List.mem_cons_of_mem _ hd)]
            congr 1
            show ((48 + x.toNat : Nat) : Int) - 48 = x
            omega
        exact this l fun m hm => (hg.2 m hm).1
  have e2 : barOf (barTx b) = b := by
    unfold barOf
    rw [e, List.map_map]
    have : b.items.map (stepOf ∘ stepTx) = b.items := by
      conv => rhs; rw [← List.map_id b.items]
      exact List.map_congr_left fun s hs => hso s (hb.2 s hs)
    rw [this]
  refine ⟨isTx_of ?_ ?_ ?_, e2⟩
  · rw [e, List.all_map, List.all_eq_true]
    intro s hs
    have hg := hb.2 s hs
    show wDig (stepTx s) = true
    unfold wDig stepTx
    by_cases he : s.items = []
    · rw [if_pos he]; simp
    · rw [if_neg he, cs_ofC, Bool.or_eq_true]
      right
      rw [List.all_map, List.all_eq_true]
      intro m hm
      have := hg.2 m hm
      simp [isDg]; omega
  · rw [e2]; exact (hb.barB s1 s2).1
  · rw [e2]
abbrev lastB : Bar := ⟨⟨[]⟩ :: List.replicate 15 (⟨[0, 1, 2, 3, 4, 5, 6, 7]⟩ : BF.Step)⟩
theorem last_good : GoodB 16 lastB := by
  refine ⟨rfl, fun s hs => ?_⟩
  rcases List.mem_cons.mp hs with rfl | hs
  · exact ⟨.nil, fun m hm => by simp at hm⟩
  · rw [(List.mem_replicate.mp hs).2]
    exact ⟨by decide, by decide⟩
theorem last_tx (ρ : Slots) (st : Sto) : (aCons (lift2 gAdd (eC (.str (PySem.Str.ofString "-"))) (lift2 gMul (eC (.str (PySem.Str.ofString ".01234567"))) (eC (.int 15)))) aNil) ρ st = .ok [.str (barTx lastB)] st := by kernel_rfl
theorem last_due (ρ : Slots) (st : Sto) : (tupV (aCons (eC (.str (PySem.Str.ofString "found"))) (aCons (lift2 gAdd (tupV (aCons (tupV aNil) aNil)) (lift2 gMulT (tupV (aCons (tupV (aCons (eC (.int 0)) (aCons (eC (.int 1)) (aCons (eC (.int 2)) (aCons (eC (.int 3)) (aCons (eC (.int 4)) (aCons (eC (.int 5)) (aCons (eC (.int 6)) (aCons (eC (.int 7)) aNil))))))))) aNil)) (eC (.int 15)))) aNil))) ρ st = .ok (fndD (toD lastB)) st := by kernel_rfl
theorem fnd_eq (b : Bar) : gEq (fndD (toD b)) (fndD (toD b)) = some true := by
  show (if _ then _ else _) = _
  rw [sh_b]
  have : PyData.eqv (fndD (toD b)) (fndD (toD b)) = decide (b = b) := (Datum.eqv (PySem.Str.ofString "found", b) (PySem.Str.ofString "found", b)).trans (decide_eq_decide.mpr (by simp))
  rw [this]; simp
theorem told_eq {n : Nat} {b : Bar} (g : GoodB n b) (h1 : 1 ≤ n) (hn : n ≤ 16) {AA : AF} {BB : EF} {ρ : Slots} {st : Sto} (a : AA ρ st = .ok [.str (barTx b)] st) (d : BB ρ st = .ok (fndD (toD b)) st) : tv (liftT gEq (callF 2 fn__law_told (aCons (eC (.int 1)) AA)) BB) ρ st = .ok (.bool true) st := by
  have bl := barTx_len g hn
  have t := told_r (barTx_asc g) (by omega) (WB.mono (barTx_wb g) (by omega)) st
  have bt := bar_tx g h1 hn
  rw [if_pos bt.1, bt.2] at t
  have e := fnd_eq b
  have c : callF 2 fn__law_told (aCons (eC (.int 1)) AA) ρ st = .ok (fndD (toD b)) st := by simp_arith [a, t]
  exact ev_tv (ev_liftT c d e)
theorem last_eq (ρ : Slots) (st : Sto) : tv (liftT gEq (callF 2 fn__law_told (aCons (eC (.int 1)) (aCons (lift2 gAdd (eC (.str (PySem.Str.ofString "-"))) (lift2 gMul (eC (.str (PySem.Str.ofString ".01234567"))) (eC (.int 15)))) aNil))) (tupV (aCons (eC (.str (PySem.Str.ofString "found"))) (aCons (lift2 gAdd (tupV (aCons (tupV aNil) aNil)) (lift2 gMulT (tupV (aCons (tupV (aCons (eC (.int 0)) (aCons (eC (.int 1)) (aCons (eC (.int 2)) (aCons (eC (.int 3)) (aCons (eC (.int 4)) (aCons (eC (.int 5)) (aCons (eC (.int 6)) (aCons (eC (.int 7)) aNil))))))))) aNil)) (eC (.int 15)))) aNil)))) ρ st = .ok (.bool true) st :=
  told_eq last_good (by decide) (by decide) (last_tx ρ st) (last_due ρ st)
theorem loop8 {ns : List Int} {size m : Nat} {b : Bar} (hb : GoodB size b) (s1 : 1 ≤ size) (s2 : size ≤ 16) (hm : m + 100 < 16777216) : ∃ s5 s7 s8 s9 s10, lp_law_1 [.val (D.scr ns), .val (D.ob 0), .val (toD b), .val (.list ((b.items.map stepTx).map .str)), .val (.str (barTx b)), .emp, .emp, .emp, .emp, .emp, .emp, .emp, .emp, .emp] [tw m] = .nx [.val (D.scr ns), .val (D.ob 0), .val (toD b), .val (.list ((b.items.map stepTx).map .str)), .val (.str (barTx b)), s5, .emp, s7, s8, s9, s10, .emp, .emp, .emp] [tw (m + 24)] := by
  have ba := barTx_asc hb
  have bl := barTx_len hb s2
  have bw := barTx_wb hb
  have := forS_nx (fi := rng1 (eC (.int 8))) (t := .nm 5) (body := bd_law_1) (ρ := [.val (D.scr ns), .val (D.ob 0), .val (toD b), .val (.list ((b.items.map stepTx).map .str)), .val (.str (barTx b)), .emp, .emp, .emp, .emp, .emp, .emp, .emp, .emp, .emp]) (st := [tw m]) (st1 := [tw m]) (fun k : Nat => PyData.int (k : Int)) (List.range 8)
    (fun k ρ st => st = [tw (m + 3 * k)] ∧ ∃ s5 s7 s8 s9 s10, ρ = [.val (D.scr ns), .val (D.ob 0), .val (toD b), .val (.list ((b.items.map stepTx).map .str)), .val (.str (barTx b)), s5, .emp, s7, s8, s9, s10, .emp, .emp, .emp]) rfl ⟨rfl, _, _, _, _, _, rfl⟩ ?_
  · obtain ⟨ρ', st', h1, h2, s5, s7, s8, s9, s10, rfl⟩ := this
    rw [h2] at h1
    exact ⟨s5, s7, s8, s9, s10, h1⟩
  · rintro i k hk ρ st ⟨rfl, s5, s7, s8, s9, s10, rfl⟩
    have hi : i < 8 := by have := (List.getElem?_eq_some_iff.mp hk).1; simpa using this
    obtain ⟨r7, r8, r9, r10, h⟩ := turn (ns := ns) (n := 0) (m := m + 3 * i) (b := b) (ws := .list ((b.items.map stepTx).map .str)) (t := barTx b) (s5 := .val (.int (k : Int))) (s6 := .emp) (s7 := s7) (s8 := s8) (s9 := s9) (s10 := s10) (s11 := .emp) (s12 := .emp) (s13 := .emp) (by omega) ba bl bw
    exact ⟨_, _, _, rfl, h, by rw [show m + 3 * i + 3 = m + 3 * (i + 1) by omega], _, _, _, _, _, rfl⟩
theorem if_eq {ρ : Slots} {st : Sto} (h : lc_law_1 ρ st = .ok (badS'.map fun _ => refD 5) st) : (ifS (liftT gNe (lstV lc_law_1) (lift2 gMul (lstV (chk (aCons (tupV (aCons (eC (.str (PySem.Str.ofString "refused"))) (aCons (eC (.str (PySem.Str.ofString "text"))) aNil))) aNil))) (eC (.int 10)))) (retS (eC (.bool false))) skipS) ρ st = .nx ρ st := by
  have hm : (lift2 gMul (lstV (chk (aCons (tupV (aCons (eC (.str (PySem.Str.ofString "refused"))) (aCons (eC (.str (PySem.Str.ofString "text"))) aNil))) aNil))) (eC (.int 10))) ρ st = .ok (.list (badS'.map fun _ => refD 5)) st := by
    have := bads_mul
    generalize badS'.map (fun _ => refD 5) = LL at *
    simp_arith [this]
  have hn := bads_ne
  generalize (lift2 gMul (lstV (chk (aCons (tupV (aCons (eC (.str (PySem.Str.ofString "refused"))) (aCons (eC (.str (PySem.Str.ofString "text"))) aNil))) aNil))) (eC (.int 10))) = MM at hm ⊢
  generalize badS'.map (fun _ => refD 5) = LL at *
  simp_arith [h, hm, hn]
theorem rt_eq (ρ : Slots) (st : Sto) : (retS (tv (liftT gEq (callF 2 fn__law_told (aCons (eC (.int 1)) (aCons (lift2 gAdd (eC (.str (PySem.Str.ofString "-"))) (lift2 gMul (eC (.str (PySem.Str.ofString ".01234567"))) (eC (.int 15)))) aNil))) (tupV (aCons (eC (.str (PySem.Str.ofString "found"))) (aCons (lift2 gAdd (tupV (aCons (tupV aNil) aNil)) (lift2 gMulT (tupV (aCons (tupV (aCons (eC (.int 0)) (aCons (eC (.int 1)) (aCons (eC (.int 2)) (aCons (eC (.int 3)) (aCons (eC (.int 4)) (aCons (eC (.int 5)) (aCons (eC (.int 6)) (aCons (eC (.int 7)) aNil))))))))) aNil)) (eC (.int 15)))) aNil)))))) ρ st = .rt (.bool true) st := by
  have le := last_eq ρ st
  unfold retS
  rw [le]; rfl
theorem law_true (ns : List Int) (_ : ns.length ≤ 63) : ∃ st, fn_law [D.scr ns] [] = .ok (.bool true) st := by
  obtain ⟨v, v0, v1, hv⟩ := draw_ok ns (n := 0) (m := 16) [] (by omega) (by omega)
  obtain ⟨size, hs⟩ : ∃ k : Nat, 1 + v = (k : Int) := ⟨(1 + v).toNat, by omega⟩
  have s1 : 1 ≤ size := by omega
  have s2 : size ≤ 16 := by omega
  obtain ⟨b, m, hb, m1, m2, hbar⟩ := bar_ok (ns := ns) (n := 1) (size := size) (st := []) (by omega) (by omega)
  have t0 := told_w hb s1 s2 [tw m]
  have ba := barTx_asc hb
  have bl := barTx_len hb s2
  have bw := barTx_wb hb
  have bt := bar_tx hb s1 s2
  have t1 := told_r ba (by omega) (WB.mono bw (by omega)) [tw m]
  rw [if_pos bt.1, bt.2] at t1
  have lp := loop8 (ns := ns) (m := m) hb s1 s2 (by omega)
  obtain ⟨s5, s7, s8, s9, s10, lp⟩ := lp
  have hbad := bads_told (ρ := [.val (D.scr ns), .val (D.ob 0), .val (toD b), .val (.list ((b.items.map stepTx).map .str)), .val (.str (barTx b)), s5, .val (.list (badS'.map PyData.str)), s7, s8, s9, s10, .emp, .emp, .emp]) rfl rfl [tw (m + 24)]
  have hnew : newOb 1 (chk aNil) [.val (D.scr ns), .emp, .emp, .emp, .emp, .emp, .emp, .emp, .emp, .emp, .emp, .emp, .emp, .emp] [] = .nx [.val (D.scr ns), .val (D.ob 0), .emp, .emp, .emp, .emp, .emp, .emp, .emp, .emp, .emp, .emp, .emp, .emp] [tw 0] := rfl
  have hw := words_eq hb (s0 := .val (D.scr ns)) (s1 := .val (D.ob 0)) (s3 := .emp) (s4 := .emp) (s5 := .emp) (s6 := .emp) (s7 := .emp) (s8 := .emp) (s9 := .emp) (s10 := .emp) [tw m]
  have hj := join_bar hb s2
  have n0 := ne_s ba.ok
  have n1 := ne_b b
  refine ⟨[tw (m + 24)], fnB_rt ?_⟩
  show b_law [.val (D.scr ns), .emp, .emp, .emp, .emp, .emp, .emp, .emp, .emp, .emp, .emp, .emp, .emp, .emp] [] = _
  unfold b_law
  have be := bads_eq
  have ie := if_eq hbad
  have re := rt_eq
  generalize (ifS (liftT gNe (lstV lc_law_1) (lift2 gMul (lstV (chk (aCons (tupV (aCons (eC (.str (PySem.Str.ofString "refused"))) (aCons (eC (.str (PySem.Str.ofString "text"))) aNil))) aNil))) (eC (.int 10)))) (retS (eC (.bool false))) skipS) = IF at ie ⊢
  generalize (retS (tv (liftT gEq (callF 2 fn__law_told (aCons (eC (.int 1)) (aCons (lift2 gAdd (eC (.str (PySem.Str.ofString "-"))) (lift2 gMul (eC (.str (PySem.Str.ofString ".01234567"))) (eC (.int 15)))) aNil))) (tupV (aCons (eC (.str (PySem.Str.ofString "found"))) (aCons (lift2 gAdd (tupV (aCons (tupV aNil) aNil)) (lift2 gMulT (tupV (aCons (tupV (aCons (eC (.int 0)) (aCons (eC (.int 1)) (aCons (eC (.int 2)) (aCons (eC (.int 3)) (aCons (eC (.int 4)) (aCons (eC (.int 5)) (aCons (eC (.int 6)) (aCons (eC (.int 7)) aNil))))))))) aNil)) (eC (.int 15)))) aNil)))))) = RT at re ⊢
  generalize chk (aCons (eC (.str (PySem.Str.ofString ""))) (aCons (eC (.str (PySem.Str.ofString "."))) (aCons (eC (.str (PySem.Str.ofString "8"))) (aCons (eC (.str (PySem.Str.ofString "-."))) (aCons (eC (.str (PySem.Str.ofString ".-"))) (aCons (eC (.str (PySem.Str.ofString "00"))) (aCons (eC (.str (PySem.Str.ofString "10"))) (aCons (eC (.str (PySem.Str.ofString "0-"))) (aCons (eC (.str (PySem.Str.ofString " "))) (aCons (lift2 gAdd (eC (.str (PySem.Str.ofString "-"))) (lift2 gMul (eC (.str (PySem.Str.ofString ".-"))) (eC (.int 16)))) aNil)))))))))) = BB at be ⊢
  refine seqE hnew ?_
  refine seqE (ρ' := [.val (D.scr ns), .val (D.ob 0), .val (toD b), .emp, .emp, .emp, .emp, .emp, .emp, .emp, .emp, .emp, .emp, .emp]) (st' := [tw m]) (by simp_arith [hv, hs, hbar]) ?_
  refine seqE (ρ' := [.val (D.scr ns), .val (D.ob 0), .val (toD b), .val (.list ((b.items.map stepTx).map .str)), .emp, .emp, .emp, .emp, .emp, .emp, .emp, .emp, .emp, .emp]) (st' := [tw m]) (by simp_arith [hw]) ?_
  refine seqE (ρ' := [.val (D.scr ns), .val (D.ob 0), .val (toD b), .val (.list ((b.items.map stepTx).map .str)), .val (.str (barTx b)), .emp, .emp, .emp, .emp, .emp, .emp, .emp, .emp, .emp]) (st' := [tw m]) (by simp_arith [hj]) ?_
  refine seqE (ρ' := [.val (D.scr ns), .val (D.ob 0), .val (toD b), .val (.list ((b.items.map stepTx).map .str)), .val (.str (barTx b)), .emp, .emp, .emp, .emp, .emp, .emp, .emp, .emp, .emp]) (st' := [tw m]) (by simp_arith [t0, t1, n0, n1]) ?_
  refine seqE lp ?_
  refine seqE (ρ' := [.val (D.scr ns), .val (D.ob 0), .val (toD b), .val (.list ((b.items.map stepTx).map .str)), .val (.str (barTx b)), s5, .val (.list (badS'.map PyData.str)), s7, s8, s9, s10, .emp, .emp, .emp]) (st' := [tw (m + 24)]) (by simp_arith [be]) ?_
  refine seqE ie ?_
  exact re _ _

end k41
theorem PySem.Challenge.cw_beatfinds_k41_texts_holds : PySem.Challenge.rw_beatfinds_k41_texts.Holds := by
  exact k41.final k41.law_true
