import PyProof.Rows.All
import Wide.All
import OpenK.AllK
import Wide.FinOn
import HandS.ForMost
import HandS.Exc
import HandS.TryOnly
import HandS.TryMany
import HandS.ExcOwn
import HandS.ExcIs
import HandS.WordsExc
import HandS.Walk
import HandS.Zip
import HandS.TupAny
import HandS.TupMul
import HandS.IsInst
import HandS.Conv
import HandS.Style
import KE.DataEq
import KE.DataMinMax
import KE.DataCmp
import KE.SortData
import HandS.SortInts
import HandS.Flow
import KE.GoesEnum
import KE.GoesMore
import HandS.Iter
import HandS.SetFor
import HandS.Strs
import PyProof.MaxThree
import HandS.Text
import HandS.Replace
import HandS.ExcInit
import HandS.ExcField
import HandS.ClsMeth
import KE.KExcIs
import HandS.Codes
import PyProof.StrLawsChain
import HandS.Ends
import PySem.Challenge.RW_ringfreetables_k11_text
set_option Elab.async false
set_option linter.all false
set_option maxRecDepth 100000
set_option maxHeartbeats 4000000
namespace Rf
open PySem L2

/-! ## data and how the heap bears it -/
inductive D where
  | non | bl (b : Bool) | int (i : Int) | str (s : Str) | lst (xs : List D) | tup (xs : List D) | scr (ns : List Int) | obj (a : Addr)
mutual
inductive Dq (K : PySem.W.Frag) (B : Hp) : V → D → Prop
  | non : Dq K B .non .non
  | bl (b : Bool) : Dq K B (.bl b) (.bl b)
  | int (i : Int) : Dq K B (.int i) (.int i)
  | str (s : Str) : Dq K B (.str s) (.str s)
  | lst {a : Addr} {xs : List V} {ds : List D} : B a = some (.lst xs) → DqAll K B xs ds → Dq K B (.ref a) (.lst ds)
  | tup {a : Addr} {xs : List V} {ds : List D} : B a = some (.tup xs) → DqAll K B xs ds → Dq K B (.ref a) (.tup ds)
  | scr {a : Addr} {ns : List Int} : SqL K B a (ns.map V.int) → Dq K B (.ref a) (.scr ns)
  | obj (a : Addr) : Dq K B (.ref a) (.obj a)
inductive DqAll (K : PySem.W.Frag) (B : Hp) : List V → List D → Prop
  | nil : DqAll K B [] []
  | cons {v : V} {vs : List V} {d : D} {ds : List D} : Dq K B v d → DqAll K B vs ds → DqAll K B (v :: vs) (d :: ds)
end
section
variable {K : PySem.W.Frag} {B B' H H' : Hp}
mutual
theorem dq_mono (e : Same B B') : ∀ (d : D) (v : V), Dq K B v d → Dq K B' v d
  | .non, _, h => by cases h; exact .non
  | .bl _, _, h => by cases h; exact .bl _
  | .int _, _, h => by cases h; exact .int _
  | .str _, _, h => by cases h; exact .str _
  | .lst ds, _, h => by
    cases h with
    | lst ha hd => exact .lst (e _ _ ha) (dqAll_mono e ds _ hd)
  | .tup ds, _, h => by
    cases h with
    | tup ha hd => exact .tup (e _ _ ha) (dqAll_mono e ds _ hd)
  | .scr _, _, h => by
    cases h with
    | scr hs => exact .scr (e.seq hs)
  | .obj _, _, h => by cases h; exact .obj _
theorem dqAll_mono (e : Same B B') : ∀ (ds : List D) (vs : List V), DqAll K B vs ds → DqAll K B' vs ds
  | [], _, h => by cases h; exact .nil
  | d :: ds, _, h => by
    cases h with
    | cons h1 h2 => exact .cons (dq_mono e d _ h1) (dqAll_mono e ds _ h2)
end
theorem Dq.mono {v : V} {d : D} (h : Dq K B v d) (e : Same B B') : Dq K B' v d := dq_mono e d v h
theorem DqAll.mono {vs : List V} {ds : List D} (h : DqAll K B vs ds) (e : Same B B') : DqAll K B' vs ds := dqAll_mono e ds vs h
theorem DqAll.length : ∀ {vs : List V} {ds : List D}, DqAll K B vs ds → vs.length = ds.length
  | _, _, .nil => rfl
  | _, _, .cons _ t => by rw [List.length_cons, List.length_cons, DqAll.length t]
theorem DqAll.get : ∀ {vs : List V} {ds : List D} {i : Nat} {d : D}, DqAll K B vs ds → ds[i]? = some d → ∃ v, vs[i]? = some v ∧ Dq K B v d
  | _, _, _, _, .nil, e => by simp at e
  | _, _, 0, _, .cons h _, e => by simp at e; subst e; exact ⟨_, rfl, h⟩
  | _, _, i + 1, d, .cons _ t, e => by
    obtain ⟨v, h1, h2⟩ := DqAll.get (i := i) (d := d) t (by simpa using e)
    exact ⟨v, by simpa using h1, h2⟩
theorem DqAll.get2 : ∀ {vs : List V} {ds : List D} {i : Nat} {v : V}, DqAll K B vs ds → vs[i]? = some v → ∃ d, ds[i]? = some d ∧ Dq K B v d
  | _, _, _, _, .nil, e => by simp at e
  | _, _, 0, _, .cons h _, e => by simp at e; subst e; exact ⟨_, rfl, h⟩
  | _, _, i + 1, v, .cons _ t, e => by
    obtain ⟨d, h1, h2⟩ := DqAll.get2 (i := i) (v := v) t (by simpa using e)
    exact ⟨d, by simpa using h1, h2⟩
theorem DqAll.append : ∀ {vs ws : List V} {ds es : List D}, DqAll K B vs ds → DqAll K B ws es → DqAll K B (vs ++ ws) (ds ++ es)
  | _, _, _, _, .nil, s => s
  | _, _, _, _, .cons r t, s => .cons r (DqAll.append t s)
theorem DqAll.take : ∀ {vs : List V} {ds : List D} (n : Nat), DqAll K B vs ds → DqAll K B (vs.take n) (ds.take n)
  | _, _, 0, _ => .nil
  | _, _, _ + 1, .nil => .nil
  | _, _, n + 1, .cons r t => .cons r (DqAll.take n t)
theorem DqAll.drop : ∀ {vs : List V} {ds : List D} (n : Nat), DqAll K B vs ds → DqAll K B (vs.drop n) (ds.drop n)
  | _, _, 0, r => r
  | _, _, _ + 1, .nil => .nil
  | _, _, n + 1, .cons _ t => DqAll.drop n t
theorem DqAll.set {v : V} {d : D} (r : Dq K B v d) : ∀ {vs : List V} {ds : List D} (i : Nat), DqAll K B vs ds → DqAll K B (vs.set i v) (ds.set i d)
  | _, _, _, .nil => .nil
  | _, _, 0, .cons _ t => .cons r t
  | _, _, i + 1, .cons q t => .cons q (DqAll.set r i t)
theorem DqAll.erase : ∀ {vs : List V} {ds : List D} (i : Nat), DqAll K B vs ds → DqAll K B (vs.eraseIdx i) (ds.eraseIdx i)
  | _, _, _, .nil => .nil
  | _, _, 0, .cons _ t => t
  | _, _, i + 1, .cons q t => .cons q (DqAll.erase i t)
theorem DqAll.reverse : ∀ {vs : List V} {ds : List D}, DqAll K B vs ds → DqAll K B vs.reverse ds.reverse
  | _, _, .nil => .nil
  | _, _, .cons q t => by
    rw [List.reverse_cons, List.reverse_cons]
    exact (DqAll.reverse t).append (.cons q .nil)
theorem DqAll.ints : ∀ {vs : List V} {ns : List Int}, DqAll K B vs (ns.map D.int) → vs = ns.map V.int
  | _, [], .nil => rfl
  | _, n :: ns, .cons h t => by
    cases h
    rw [List.map_cons, DqAll.ints t]
theorem DqAll.of_ints : ∀ (ns : List Int), DqAll K B (ns.map V.int) (ns.map D.int)
  | [] => .nil
  | n :: ns => .cons (.int n) (DqAll.of_ints ns)
end

/-! ## how heaps go on: B is what never changes (data), H is all -/
structure Fit (B0 H0 B H : Hp) : Prop where
  bb : Same B0 B
  bh : Same B H
  hh : Same H0 H
  nw : ∀ a o, B a = some o → B0 a = some o ∨ H0 a = none
theorem Fit.refl {B H : Hp} (h : Same B H) : Fit B H B H := ⟨Same.refl _, h, Same.refl _, fun _ _ e => .inl e⟩
theorem Fit.trans {B0 H0 B H B1 H1 : Hp} (a : Fit B0 H0 B H) (b : Fit B H B1 H1) : Fit B0 H0 B1 H1 :=
  ⟨a.bb.trans b.bb, b.bh, a.hh.trans b.hh, fun x o e => by
    rcases b.nw x o e with q | q
    · exact a.nw x o q
    · exact .inr (a.hh.free q)⟩
theorem same_new {H : Hp} {p : Addr} {o : HO} (h : H p = none) : Same H (upd H p o) := fun b u e => by
  rw [upd_ne (ne_of_none e h)]
  exact e
theorem same_upd {B H : Hp} {p : Addr} {o : HO} (e : Same B H) (h : B p = none) : Same B (upd H p o) := fun b u q => by
  rw [upd_ne (ne_of_none q h)]
  exact e _ _ q
theorem same_both {B H : Hp} {p : Addr} {o : HO} (e : Same B H) : Same (upd B p o) (upd H p o) := fun b u q => by
  by_cases hb : b = p
  · subst hb
    rw [upd_same] at q ⊢
    exact q
  · rw [upd_ne hb] at q ⊢
    exact e _ _ q
theorem Fit.new {B H : Hp} {p : Addr} {o : HO} (h : Same B H) (hp : H p = none) : Fit B H (upd B p o) (upd H p o) :=
  ⟨same_new (h.free hp), same_both h, same_new hp, fun a u e => by
    by_cases ha : a = p
    · subst ha
      exact .inr hp
    · rw [upd_ne ha] at e
      exact .inl e⟩
/-- new objects that are no data -/
theorem Fit.grow {B H H1 : Hp} (h : Same B H) (e : Same H H1) : Fit B H B H1 := ⟨Same.refl _, h.trans e, e, fun _ _ q => .inl q⟩
/-- what stands at p, new, becomes data -/
theorem Fit.freeze {B H B1 H1 : Hp} {p : Addr} {o : HO} (f : Fit B H B1 H1) (hp : H p = none) (hq : B1 p = none) (h : H1 p = some o) : Fit B H (upd B1 p o) H1 :=
  ⟨f.bb.trans (same_new hq), fun a u e => by
    by_cases ha : a = p
    · subst ha
      rw [upd_same] at e
      rw [h]
      exact e
    · rw [upd_ne ha] at e
      exact f.bh _ _ e, f.hh, fun a u e => by
    by_cases ha : a = p
    · subst ha
      exact .inr hp
    · rw [upd_ne ha] at e
      exact f.nw _ _ e⟩
theorem Fit.free {B H B1 H1 : Hp} {p : Addr} (f : Fit B H B1 H1) (h : H1 p = none) : H p = none := f.hh.free h

/-! ## slots -/
inductive Sl where
  | im (d : D) | mu (ds : List D) | mm (rows : List (List D)) | no | xl (a p : Addr) (d : D) | wr (ss : List D) | wv (ss : List D) | dk (kvs : List (D × D))
abbrev En := List Sl
inductive RowsOk (K : PySem.W.Frag) (B H : Hp) : List Addr → List (List D) → Prop
  | nil : RowsOk K B H [] []
  | cons {q : Addr} {vs : List V} {ds : List D} {qs : List Addr} {rows : List (List D)} : H q = some (.lst vs) → DqAll K B vs ds → RowsOk K B H qs rows → RowsOk K B H (q :: qs) (ds :: rows)
/-- C is the class Weaver -/
def IsWv (K : PySem.W.Frag) (C : Addr) : Prop := PySem.W.nsIn K mainGlobals "Weaver" = some (some (.ref C))
def wFs (p : Addr) : List (Str × V) := [(("steps" : Str), .ref p), (("kept" : Str), .int 0)]
/-- a weaver stands at a, its dict at dx, its steps at p -/
def WvAt (K : PySem.W.Frag) (H : Hp) (a dx p : Addr) (vs : List V) : Prop := ∃ C, IsWv K C ∧ H a = some (.ins C dx (wFs p)) ∧ H dx = some (.own a) ∧ H p = some (.lst vs)
/-! dicts whose keys are ints, tuples, tuples of tuples -/
mutual
def hashD : D → Int
  | .int i => hashInt i
  | .tup ds => reduceHash (Builtin.Tuple.tupleHashOf (hashDs ds))
  | _ => 0
def hashDs : List D → List Int
  | [] => []
  | d :: ds => hashD d :: hashDs ds
end
/-- a dict by its entries: hash, key, value -/
def dkO (p : Addr) (es : List (Int × V × V)) : HO := .ext fun h => (p == sysModules) = false ∧ ∃ o ds ep, h.get? p = some o ∧ o.ExactDict ∧ o.data = .dict ds ep ∧ Paired (fun (e : Int × V × V) (d : DictEntry) => d.hash = e.1 ∧ RelV e.2.1 d.key ∧ RelV e.2.2 d.val) es ds.toList
inductive DkAll (K : PySem.W.Frag) (B : Hp) : List (Int × V × V) → List (D × D) → Prop
  | nil : DkAll K B [] []
  | cons {n : Int} {k v : V} {es : List (Int × V × V)} {kd vd : D} {kvs : List (D × D)} : n = hashD kd → Dq K B k kd → Dq K B v vd → DkAll K B es kvs → DkAll K B ((n, k, v) :: es) ((kd, vd) :: kvs)
theorem DkAll.mono {K : PySem.W.Frag} {B B' : Hp} (e : Same B B') : ∀ {es : List (Int × V × V)} {kvs : List (D × D)}, DkAll K B es kvs → DkAll K B' es kvs
  | _, _, .nil => .nil
  | _, _, .cons h k v t => .cons h (k.mono e) (v.mono e) (DkAll.mono e t)
/-- the weaver of a slot .wr stands in H0, to be read only -/
def SlOk (K : PySem.W.Frag) (H0 : Hp) (σ : St) (B H : Hp) (ad : List Addr) (i : Nat) : Sl → Prop
  | .im d => ∃ v, σ[i]? = some (some v) ∧ Dq K B v d
  | .mu ds => ∃ p vs, ad = [p] ∧ σ[i]? = some (some (.ref p)) ∧ H p = some (.lst vs) ∧ DqAll K B vs ds
  | .mm rows => ∃ p qs, ad = p :: qs ∧ ad.Nodup ∧ σ[i]? = some (some (.ref p)) ∧ H p = some (.lst (qs.map V.ref)) ∧ RowsOk K B H qs rows
  | .no => True
  | .xl a p d => σ[i]? = some (some (.ref a)) ∧ ∃ v, B p = some (.xd [(("line" : Str), v)]) ∧ Dq K B v d
  | .wr ss => ∃ a dx p vs, σ[i]? = some (some (.ref a)) ∧ WvAt K H0 a dx p vs ∧ DqAll K B vs ss
  | .wv ss => ∃ a dx p vs, ad = [a, dx, p] ∧ ad.Nodup ∧ σ[i]? = some (some (.ref a)) ∧ WvAt K H a dx p vs ∧ DqAll K B vs ss
  | .dk kvs => ∃ p es, ad = [p] ∧ σ[i]? = some (some (.ref p)) ∧ H p = some (dkO p es) ∧ DkAll K B es kvs
structure RepA (K : PySem.W.Frag) (B0 H0 : Hp) (E : En) (σ : St) (B H : Hp) (ad : Nat → List Addr) : Prop where
  fit : Fit B0 H0 B H
  len : E.length = σ.length
  ow : ∀ i a, a ∈ ad i → H0 a = none ∧ B a = none ∧ H a ≠ none
  sl : ∀ i s, E[i]? = some s → SlOk K H0 σ B H (ad i) i s
  dj : ∀ i j a, i ≠ j → a ∈ ad i → a ∉ ad j
def Rep (K : PySem.W.Frag) (B0 H0 : Hp) (E : En) (σ : St) (B H : Hp) : Prop := ∃ ad, RepA K B0 H0 E σ B H ad
section
variable {K : PySem.W.Frag} {B0 H0 B H B1 H1 : Hp} {E : En} {σ : St} {ad : Nat → List Addr}
theorem Rep.fit (r : Rep K B0 H0 E σ B H) : Fit B0 H0 B H := let ⟨_, q⟩ := r; q.fit
theorem Rep.bh (r : Rep K B0 H0 E σ B H) : Same B H := r.fit.bh
theorem Rep.len (r : Rep K B0 H0 E σ B H) : E.length = σ.length := let ⟨_, q⟩ := r; q.len
theorem RowsOk.imp {B' H' : Hp} (hb : Same B B') : ∀ {qs : List Addr} {rows : List (List D)}, (∀ q ∈ qs, H' q = H q) → RowsOk K B H qs rows → RowsOk K B' H' qs rows
  | _, _, _, .nil => .nil
  | _, _, h, .cons e d t => .cons (by rw [h _ (List.mem_cons_self ..)]; exact e) (d.mono hb) (RowsOk.imp hb (fun q hq => h q (List.mem_cons_of_mem _ hq)) t)
/-- data and the slot's own objects stand -/
theorem SlOk.imp {B' H' : Hp} {l : List Addr} {i : Nat} {s : Sl} (hb : Same B B') (hh : ∀ a ∈ l, H' a = H a) (h : SlOk K H0 σ B H l i s) : SlOk K H0 σ B' H' l i s := by
  cases s with
  | im d =>
    obtain ⟨v, e, q⟩ := h
    exact ⟨v, e, q.mono hb⟩
  | mu ds =>
    obtain ⟨p, vs, rfl, e, e2, q⟩ := h
    exact ⟨p, vs, rfl, e, by rw [hh p (List.mem_singleton.mpr rfl)]; exact e2, q.mono hb⟩
  | mm rows =>
    obtain ⟨p, qs, rfl, nd, e, e2, q⟩ := h
    exact ⟨p, qs, rfl, nd, e, by rw [hh p (List.mem_cons_self ..)]; exact e2, q.imp hb fun a ha => hh a (List.mem_cons_of_mem _ ha)⟩
  | no => trivial
  | xl a p d =>
    obtain ⟨e, v, e2, q⟩ := h
    exact ⟨e, v, hb _ _ e2, q.mono hb⟩
  | wr ss =>
    obtain ⟨a, dx, p, vs, e, e2, q⟩ := h
    exact ⟨a, dx, p, vs, e, e2, q.mono hb⟩
  | wv ss =>
    obtain ⟨a, dx, p, vs, rfl, nd, e, ⟨C, k, e2, e3, e4⟩, q⟩ := h
    exact ⟨a, dx, p, vs, rfl, nd, e, ⟨C, k, by rw [hh a (by simp)]; exact e2, by rw [hh dx (by simp)]; exact e3, by rw [hh p (by simp)]; exact e4⟩, q.mono hb⟩
  | dk kvs =>
    obtain ⟨p, es, rfl, e, e2, q⟩ := h
    exact ⟨p, es, rfl, e, by rw [hh p (List.mem_singleton.mpr rfl)]; exact e2, q.mono hb⟩
theorem SlOk.slot {σ' : St} {l : List Addr} {i : Nat} {s : Sl} (e : σ'[i]? = σ[i]?) (h : SlOk K H0 σ B H l i s) : SlOk K H0 σ' B H l i s := by
  cases s with
  | im d => obtain ⟨v, e1, q⟩ := h; exact ⟨v, by rw [e]; exact e1, q⟩
  | mu ds => obtain ⟨p, vs, a, e1, q⟩ := h; exact ⟨p, vs, a, by rw [e]; exact e1, q⟩
  | mm rows => obtain ⟨p, qs, a, nd, e1, q⟩ := h; exact ⟨p, qs, a, nd, by rw [e]; exact e1, q⟩
  | no => trivial
  | xl a p d => obtain ⟨e1, q⟩ := h; exact ⟨by rw [e]; exact e1, q⟩
  | wr ss => obtain ⟨a, dx, p, vs, e1, q⟩ := h; exact ⟨a, dx, p, vs, by rw [e]; exact e1, q⟩
  | wv ss => obtain ⟨a, dx, p, vs, l, nd, e1, q⟩ := h; exact ⟨a, dx, p, vs, l, nd, by rw [e]; exact e1, q⟩
  | dk kvs => obtain ⟨p, es, l, e1, q⟩ := h; exact ⟨p, es, l, by rw [e]; exact e1, q⟩
theorem Rep.on (r : Rep K B0 H0 E σ B H) (f : Fit B H B1 H1) : Rep K B0 H0 E σ B1 H1 := by
  obtain ⟨ad, r⟩ := r
  have st : ∀ i a, a ∈ ad i → H1 a = H a := fun i a ha => by
    obtain ⟨_, _, h3⟩ := r.ow i a ha
    cases z : H a with
    | none => exact absurd z h3
    | some o => exact f.hh a o z
  refine ⟨ad, r.fit.trans f, r.len, fun i a ha => ?_, fun i s e => (r.sl i s e).imp f.bb (st i), r.dj⟩
  obtain ⟨h1, h2, h3⟩ := r.ow i a ha
  refine ⟨h1, ?_, by rw [st i a ha]; exact h3⟩
  cases z : B1 a with
  | none => rfl
  | some o =>
    rcases f.nw a o z with y | y
    · rw [h2] at y; cases y
    · exact absurd y h3
/-- the slot i is given something new; its own objects are l -/
theorem RepA.put (r : RepA K B0 H0 E σ B H ad) {i : Nat} {v : Option V} {s : Sl} {l : List Addr} (hs : i < E.length → SlOk K H0 (σ.set i v) B H l i s) (ho : ∀ a ∈ l, H0 a = none ∧ B a = none ∧ H a ≠ none)
    (hd : ∀ j a, i ≠ j → a ∈ l → a ∉ ad j) : RepA K B0 H0 (E.set i s) (σ.set i v) B H (fun j => if j = i then l else ad j) := by
  refine ⟨r.fit, by rw [List.length_set, List.length_set]; exact r.len, fun j a ha => ?_, fun j s' e => ?_, fun j k a hjk ha hk => ?_⟩
  · by_cases hj : j = i
    · rw [if_pos hj] at ha; exact ho a ha
    · rw [if_neg hj] at ha; exact r.ow j a ha
  · by_cases hj : j = i
    · subst hj
      by_cases hl : j < E.length
      · rw [List.getElem?_set_self hl] at e
        cases e
        rw [if_pos rfl]
        exact hs hl
      · rw [List.getElem?_eq_none (by simpa using hl)] at e; cases e
    · rw [List.getElem?_set_ne (Ne.symm hj)] at e
      rw [if_neg hj]
      exact (r.sl j s' e).slot (List.getElem?_set_ne (Ne.symm hj))
  · by_cases hj : j = i
    · by_cases hk2 : k = i
      · exact hjk (hj.trans hk2.symm)
      · rw [if_pos hj] at ha
        rw [if_neg hk2] at hk
        exact hd k a (Ne.symm hk2) ha hk
    · by_cases hk2 : k = i
      · rw [if_neg hj] at ha
        rw [if_pos hk2] at hk
        exact hd j a (Ne.symm hj) hk ha
      · rw [if_neg hj] at ha
        rw [if_neg hk2] at hk
        exact r.dj j k a hjk ha hk
/-- a slot is given data -/
theorem Rep.setIm (r : Rep K B0 H0 E σ B H) {i : Nat} {v : V} {d : D} (h : Dq K B v d) : Rep K B0 H0 (E.set i (.im d)) (σ.set i (some v)) B H := by
  obtain ⟨ad, r⟩ := r
  exact ⟨_, r.put (l := []) (fun hl => ⟨v, List.getElem?_set_self (by rw [← r.len]; exact hl), h⟩) (fun a ha => nomatch ha) (fun j a _ ha => nomatch ha)⟩
/-- no slot owns what is free -/
theorem RepA.newAt (r : RepA K B0 H0 E σ B H ad) {p : Addr} (hp : H p = none) (j : Nat) : p ∉ ad j := fun ha => (r.ow j p ha).2.2 hp
/-- a slot is given a list that nothing owns -/
theorem RepA.setMu (r : RepA K B0 H0 E σ B H ad) {i : Nat} {p : Addr} {vs : List V} {ds : List D} (h0 : H0 p = none) (hb : B p = none) (hh : H p = some (.lst vs)) (h : DqAll K B vs ds) (hn : ∀ j, i ≠ j → p ∉ ad j) :
    Rep K B0 H0 (E.set i (.mu ds)) (σ.set i (some (.ref p))) B H :=
  ⟨_, r.put (l := [p]) (fun hl => ⟨p, vs, rfl, List.getElem?_set_self (by rw [← r.len]; exact hl), hh, h⟩) (fun a ha => by rw [List.mem_singleton.mp ha]; exact ⟨h0, hb, by rw [hh]; simp⟩) (fun j a hj ha => by rw [List.mem_singleton.mp ha]; exact hn j hj)⟩
/-- a slot is forgotten -/
theorem RepA.wipe1 (r : RepA K B0 H0 E σ B H ad) (i : Nat) : RepA K B0 H0 (E.set i .no) σ B H (fun j => if j = i then [] else ad j) := by
  refine ⟨r.fit, by rw [List.length_set]; exact r.len, fun j a ha => ?_, fun j s' e => ?_, fun j k a hjk ha hk => ?_⟩
  · by_cases hj : j = i
    · rw [if_pos hj] at ha; cases ha
    · rw [if_neg hj] at ha; exact r.ow j a ha
  · by_cases hj : j = i
    · subst hj
      by_cases hl : j < E.length
      · rw [List.getElem?_set_self hl] at e
        cases e
        trivial
      · rw [List.getElem?_eq_none (by simpa using hl)] at e; cases e
    · rw [List.getElem?_set_ne (Ne.symm hj)] at e
      rw [if_neg hj]
      exact r.sl j s' e
  · by_cases hj : j = i
    · rw [if_pos hj] at ha; cases ha
    · by_cases hk2 : k = i
      · rw [if_pos hk2] at hk; cases hk
      · rw [if_neg hj] at ha
        rw [if_neg hk2] at hk
        exact r.dj j k a hjk ha hk
theorem Rep.wipe1 (r : Rep K B0 H0 E σ B H) (i : Nat) : Rep K B0 H0 (E.set i .no) σ B H := let ⟨_, q⟩ := r; ⟨_, q.wipe1 i⟩
def wipeE (E : En) : List Nat → En
  | [] => E
  | v :: vs => (wipeE E vs).set v .no
theorem Rep.wipes (r : Rep K B0 H0 E σ B H) : ∀ l : List Nat, Rep K B0 H0 (wipeE E l) σ B H
  | [] => r
  | v :: vs => (r.wipes vs).wipe1 v
/-- .. of the slots themselves too -/
theorem Rep.wipeS1 (r : Rep K B0 H0 E σ B H) (i : Nat) : Rep K B0 H0 (E.set i .no) (σ.set i none) B H := by
  obtain ⟨ad, r⟩ := r
  exact ⟨_, r.put (l := []) (fun _ => trivial) (fun a ha => nomatch ha) (fun j a _ ha => nomatch ha)⟩
theorem Rep.wipeS (r : Rep K B0 H0 E σ B H) : ∀ l : List Nat, Rep K B0 H0 (wipeE E l) (wipe σ l) B H
  | [] => r
  | v :: vs => (r.wipeS vs).wipeS1 v
/-- a slot's list becomes data -/
theorem Rep.freeze (r : Rep K B0 H0 E σ B H) {i : Nat} {ds : List D} (e : E[i]? = some (.mu ds)) : ∃ B', Rep K B0 H0 (E.set i (.im (.lst ds))) σ B' H := by
  obtain ⟨ad, r⟩ := r
  obtain ⟨p, vs, ea, e1, hh, q⟩ := r.sl i _ e
  have hp : p ∈ ad i := by rw [ea]; exact List.mem_singleton.mpr rfl
  obtain ⟨h0, hb, _⟩ := r.ow i p hp
  have sm : Same B (upd B p (.lst vs)) := same_new hb
  refine ⟨upd B p (.lst vs), fun j => if j = i then [] else ad j, r.fit.freeze h0 hb hh, by rw [List.length_set]; exact r.len, fun j a ha => ?_, fun j s' ej => ?_, fun j k a hjk ha hk => ?_⟩
  · by_cases hj : j = i
    · rw [if_pos hj] at ha; cases ha
    · rw [if_neg hj] at ha
      obtain ⟨a1, a2, a3⟩ := r.ow j a ha
      refine ⟨a1, ?_, a3⟩
      rw [upd_ne]
      · exact a2
      · rintro rfl
        exact r.dj j i a hj ha hp
  · by_cases hj : j = i
    · subst hj
      by_cases hl : j < E.length
      · rw [List.getElem?_set_self hl] at ej
        cases ej
        exact ⟨.ref p, e1, .lst upd_same (q.mono sm)⟩
      · rw [List.getElem?_eq_none (by simpa using hl)] at ej; cases ej
    · rw [List.getElem?_set_ne (Ne.symm hj)] at ej
      rw [if_neg hj]
      exact (r.sl j s' ej).imp sm fun a _ => rfl
  · by_cases hj : j = i
    · rw [if_pos hj] at ha; cases ha
    · by_cases hk2 : k = i
      · rw [if_pos hk2] at hk; cases hk
      · rw [if_neg hj] at ha
        rw [if_neg hk2] at hk
        exact r.dj j k a hjk ha hk
/-- an own object of the slot i is changed; the slot is told anew -/
theorem RepA.chg (r : RepA K B0 H0 E σ B H ad) {i : Nat} {p : Addr} {o : HO} {s : Sl} (hp : p ∈ ad i) (hs : SlOk K H0 σ B (upd H p o) (ad i) i s) : RepA K B0 H0 (E.set i s) σ B (upd H p o) ad := by
  obtain ⟨h0, hb, _⟩ := r.ow i p hp
  refine ⟨⟨r.fit.bb, same_upd r.fit.bh hb, same_upd r.fit.hh h0, r.fit.nw⟩, by rw [List.length_set]; exact r.len, fun j a ha => ?_, fun j s' ej => ?_, r.dj⟩
  · obtain ⟨a1, a2, a3⟩ := r.ow j a ha
    refine ⟨a1, a2, ?_⟩
    by_cases e : a = p
    · subst e
      rw [upd_same]
      simp
    · rw [upd_ne e]
      exact a3
  · by_cases hj : j = i
    · subst hj
      by_cases hl : j < E.length
      · rw [List.getElem?_set_self hl] at ej
        cases ej
        exact hs
      · rw [List.getElem?_eq_none (by simpa using hl)] at ej; cases ej
    · rw [List.getElem?_set_ne (Ne.symm hj)] at ej
      exact (r.sl j s' ej).imp (Same.refl _) fun a ha => upd_ne fun e => r.dj j i a hj ha (by rw [e]; exact hp)
/-- a slot's list is changed -/
theorem Rep.write (r : Rep K B0 H0 E σ B H) {i : Nat} {ds ds' : List D} {p : Addr} {vs' : List V} (e : E[i]? = some (.mu ds)) (es : σ[i]? = some (some (.ref p))) (q' : DqAll K B vs' ds') :
    Rep K B0 H0 (E.set i (.mu ds')) σ B (upd H p (.lst vs')) := by
  obtain ⟨ad, r⟩ := r
  obtain ⟨p0, vs, ea, e1, hh, q⟩ := r.sl i _ e
  rw [es] at e1
  cases e1
  exact ⟨ad, r.chg (by rw [ea]; exact List.mem_singleton.mpr rfl) ⟨p, vs', ea, es, upd_same, q'⟩⟩
theorem Rep.mu (r : Rep K B0 H0 E σ B H) {i : Nat} {ds : List D} (e : E[i]? = some (.mu ds)) : ∃ p vs, σ[i]? = some (some (.ref p)) ∧ H0 p = none ∧ B p = none ∧ H p = some (.lst vs) ∧ DqAll K B vs ds := by
  obtain ⟨ad, r⟩ := r
  obtain ⟨p, vs, ea, e1, hh, q⟩ := r.sl i _ e
  obtain ⟨h0, hb, _⟩ := r.ow i p (by rw [ea]; exact List.mem_singleton.mpr rfl)
  exact ⟨p, vs, e1, h0, hb, hh, q⟩
theorem Rep.im (r : Rep K B0 H0 E σ B H) {i : Nat} {d : D} (e : E[i]? = some (.im d)) : ∃ v, σ[i]? = some (some v) ∧ Dq K B v d := by
  obtain ⟨ad, r⟩ := r
  exact r.sl i _ e
end
end Rf
set_option Elab.async false
set_option linter.all false
set_option maxRecDepth 100000
set_option maxHeartbeats 4000000
namespace Rf
open PySem L2

abbrev AE := En → Option D
abbrev AT := En → Option Bool
abbrev AA := En → Option (List D)
abbrev Fg := PySem.W.Frag
/-- what is read: data, or a list that a slot holds -/
def Dm (K : Fg) (B H : Hp) (v : V) (d : D) : Prop := Dq K B v d ∨ ∃ p vs ds, v = .ref p ∧ d = .lst ds ∧ H p = some (.lst vs) ∧ DqAll K B vs ds
def DmAll (K : Fg) (B H : Hp) : List V → List D → Prop
  | [], [] => True
  | v :: vs, d :: ds => Dm K B H v d ∧ DmAll K B H vs ds
  | _, _ => False
section
variable {K : Fg} {B H B1 H1 : Hp}
theorem Dm.on {v : V} {d : D} (f : Fit B H B1 H1) (h : Dm K B H v d) : Dm K B1 H1 v d := by
  rcases h with h | ⟨p, vs, ds, e1, e2, e3, q⟩
  · exact .inl (h.mono f.bb)
  · exact .inr ⟨p, vs, ds, e1, e2, f.hh _ _ e3, q.mono f.bb⟩
theorem DmAll.on (f : Fit B H B1 H1) : ∀ {vs : List V} {ds : List D}, DmAll K B H vs ds → DmAll K B1 H1 vs ds
  | [], [], _ => trivial
  | _ :: _, _ :: _, h => ⟨h.1.on f, DmAll.on f h.2⟩
  | [], _ :: _, h => h.elim
  | _ :: _, [], h => h.elim
theorem Dm.lst {v : V} {ds : List D} (e : Same B H) (h : Dm K B H v (.lst ds)) : ∃ p vs, v = .ref p ∧ H p = some (.lst vs) ∧ DqAll K B vs ds := by
  rcases h with h | ⟨p, vs, ds', e1, e2, e3, q⟩
  · cases h with
    | lst ha hd => exact ⟨_, _, rfl, e _ _ ha, hd⟩
  · cases e2
    exact ⟨p, vs, e1, e3, q⟩
theorem Dm.tup {v : V} {ds : List D} (e : Same B H) (h : Dm K B H v (.tup ds)) : ∃ p vs, v = .ref p ∧ B p = some (.tup vs) ∧ H p = some (.tup vs) ∧ DqAll K B vs ds := by
  rcases h with h | ⟨p, vs, ds', e1, e2, e3, q⟩
  · cases h with
    | tup ha hd => exact ⟨_, _, rfl, ha, e _ _ ha, hd⟩
  · cases e2
theorem Dm.int {v : V} {i : Int} (h : Dm K B H v (.int i)) : v = .int i := by
  rcases h with h | ⟨p, vs, ds', e1, e2, e3, q⟩
  · cases h; rfl
  · cases e2
theorem Dm.bl {v : V} {i : Bool} (h : Dm K B H v (.bl i)) : v = .bl i := by
  rcases h with h | ⟨p, vs, ds', e1, e2, e3, q⟩
  · cases h; rfl
  · cases e2
theorem Dm.str {v : V} {i : Str} (h : Dm K B H v (.str i)) : v = .str i := by
  rcases h with h | ⟨p, vs, ds', e1, e2, e3, q⟩
  · cases h; rfl
  · cases e2
theorem Dm.non {v : V} (h : Dm K B H v .non) : v = .non := by
  rcases h with h | ⟨p, vs, ds', e1, e2, e3, q⟩
  · cases h; rfl
  · cases e2
theorem Dm.scr {v : V} {ns : List Int} (e : Same B H) (h : Dm K B H v (.scr ns)) : ∃ a, v = .ref a ∧ SqL K H a (ns.map V.int) := by
  rcases h with h | ⟨p, vs, ds', e1, e2, e3, q⟩
  · cases h with
    | scr hs => exact ⟨_, rfl, e.seq hs⟩
  · cases e2
theorem Dm.obj {v : V} {a : Addr} (h : Dm K B H v (.obj a)) : v = .ref a := by
  rcases h with h | ⟨p, vs, ds', e1, e2, e3, q⟩
  · cases h; rfl
  · cases e2
end

/-! ## what a reading comes to -/
def SnE (K : Fg) (te : TE) (ae : AE) : Prop := ∀ B0 H0 E σ B H, Rep K B0 H0 E σ B H → ∀ d, ae E = some d → ∀ Q : VK, (∀ v B1 H1, Fit B H B1 H1 → Dq K B1 v d → Q v H1) → te σ H Q
def SnM (K : Fg) (te : TE) (ae : AE) : Prop := ∀ B0 H0 E σ B H, Rep K B0 H0 E σ B H → ∀ d, ae E = some d → ∀ Q : VK, (∀ v B1 H1, Fit B H B1 H1 → Dm K B1 H1 v d → Q v H1) → te σ H Q
/-- a new list -/
def SnL (K : Fg) (te : TE) (al : AA) : Prop := ∀ B0 H0 E σ B H, Rep K B0 H0 E σ B H → ∀ ds, al E = some ds → ∀ Q : VK, (∀ p vs B1 H1, Fit B H B1 H1 → H p = none → B1 p = none → H1 p = some (.lst vs) → DqAll K B1 vs ds → Q (.ref p) H1) → te σ H Q
def SnT (K : Fg) (tt : TT) (at' : AT) : Prop := ∀ B0 H0 E σ B H, Rep K B0 H0 E σ B H → ∀ b, at' E = some b → ∀ Q : Bool → Hp → Prop, (∀ B1 H1, Fit B H B1 H1 → Q b H1) → tt σ H Q
def SnA (K : Fg) (ta : TA) (aa : AA) : Prop := ∀ B0 H0 E σ B H, Rep K B0 H0 E σ B H → ∀ ds, aa E = some ds → ∀ Q : List V → Hp → Prop, (∀ vs B1 H1, Fit B H B1 H1 → DqAll K B1 vs ds → Q vs H1) → ta σ H Q
def SnB (K : Fg) (ta : TA) (aa : AA) : Prop := ∀ B0 H0 E σ B H, Rep K B0 H0 E σ B H → ∀ ds, aa E = some ds → ∀ Q : List V → Hp → Prop, (∀ vs B1 H1, Fit B H B1 H1 → DmAll K B1 H1 vs ds → Q vs H1) → ta σ H Q

structure GE (X : Cx) (e : Expr) (te : TE) (ae : AE) : Prop where
  pe : PE X e te
  sn : SnE X.K te ae
structure GM (X : Cx) (e : Expr) (te : TE) (ae : AE) : Prop where
  pe : PE X e te
  sn : SnM X.K te ae
structure GL (X : Cx) (e : Expr) (te : TE) (al : AA) : Prop where
  pe : PE X e te
  sn : SnL X.K te al
structure GT (X : Cx) (e : Expr) (tt : TT) (at' : AT) : Prop where
  pt : PT X e tt
  sn : SnT X.K tt at'
structure GW (X : Cx) (e : Expr) (tt : TT) (at' : AT) : Prop where
  pw : PW X e tt
  sn : SnT X.K tt at'
structure GA (X : Cx) (es : List Expr) (ta : TA) (aa : AA) : Prop where
  pa : PA X es ta
  sn : SnA X.K ta aa
  ln : ∀ E ds, aa E = some ds → ds.length = es.length
structure GB (X : Cx) (es : List Expr) (ta : TA) (aa : AA) : Prop where
  pa : PA X es ta
  sn : SnB X.K ta aa

theorem SnE.m {K : Fg} {te : TE} {ae : AE} (h : SnE K te ae) : SnM K te ae := fun B0 H0 E σ B H r d e Q q => h B0 H0 E σ B H r d e Q fun v B1 H1 f z => q v B1 H1 f (.inl z)
theorem GE.m {X : Cx} {e : Expr} {te : TE} {ae : AE} (h : GE X e te ae) : GM X e te ae := ⟨h.pe, h.sn.m⟩
def aLst (al : AA) : AE := fun E => match al E with
  | some ds => some (.lst ds)
  | none => none
theorem SnL.e {K : Fg} {te : TE} {al : AA} (h : SnL K te al) : SnE K te (aLst al) := fun B0 H0 E σ B H r d e Q q => by
  unfold aLst at e
  cases z : al E with
  | none => rw [z] at e; cases e
  | some ds =>
    rw [z] at e
    cases e
    exact h B0 H0 E σ B H r ds z Q fun p vs B1 H1 f hp hb hh hd => q (.ref p) (upd B1 p (.lst vs)) H1 (f.freeze hp hb hh) (.lst upd_same (hd.mono (same_new hb)))
theorem GL.e {X : Cx} {e : Expr} {te : TE} {al : AA} (h : GL X e te al) : GE X e te (aLst al) := ⟨h.pe, h.sn.e⟩
theorem GL.m {X : Cx} {e : Expr} {te : TE} {al : AA} (h : GL X e te al) : GM X e te (aLst al) := h.e.m
theorem GW.t {X : Cx} {e : Expr} {tt : TT} {a : AT} (h : GW X e tt a) : GT X e tt a := ⟨h.pw.pt, h.sn⟩

/-! ## names, constants -/
def aVar (i : Nat) : AE := fun E => match E[i]? with
  | some (.im d) => some d
  | _ => none
def aVarM (i : Nat) : AE := fun E => match E[i]? with
  | some (.im d) => some d
  | some (.mu ds) => some (.lst ds)
  | _ => none
def aC (d : D) : AE := fun _ => some d
section
variable {X : Cx} {pos : Pos}
theorem sn_var {K : Fg} {i : Nat} : SnE K (tVar i) (aVar i) := fun B0 H0 E σ B H r d e Q q => by
  unfold aVar at e
  cases z : E[i]? with
  | none => rw [z] at e; cases e
  | some s =>
    rw [z] at e
    cases s with
    | im d' =>
      cases e
      obtain ⟨v, e1, h⟩ := r.im z
      exact ⟨v, e1, q v B H (Fit.refl r.bh) h⟩
    | _ => cases e
theorem sn_varM {K : Fg} {i : Nat} : SnM K (tVar i) (aVarM i) := fun B0 H0 E σ B H r d e Q q => by
  unfold aVarM at e
  cases z : E[i]? with
  | none => rw [z] at e; cases e
  | some s =>
    rw [z] at e
    cases s with
    | im d' =>
      cases e
      obtain ⟨v, e1, h⟩ := r.im z
      exact ⟨v, e1, q v B H (Fit.refl r.bh) (.inl h)⟩
    | mu ds =>
      cases e
      obtain ⟨p, vs, e1, h0, hb, hh, h⟩ := r.mu z
      exact ⟨.ref p, e1, q _ B H (Fit.refl r.bh) (.inr ⟨p, vs, ds, rfl, rfl, hh, h⟩)⟩
    | _ => cases e
theorem ge_var (i : Nat) {x : Str} (hN : X.N[i]? = some x := by rfl) (hv : Vis X.env.scope x := by first | exact Or.inl rfl | exact Or.inr (Or.inl rfl) | exact Or.inr (Or.inr rfl)) (hd : (x == ("__debug__" : Str)) = false := by decide)
    (hcd : (x == ("__classdict__" : Str)) = false := by decide) : GE X (.Name x pos) (tVar i) (aVar i) := ⟨pe_var hN hv hd hcd, sn_var⟩
theorem gm_var (i : Nat) {x : Str} (hN : X.N[i]? = some x := by rfl) (hv : Vis X.env.scope x := by first | exact Or.inl rfl | exact Or.inr (Or.inl rfl) | exact Or.inr (Or.inr rfl)) (hd : (x == ("__debug__" : Str)) = false := by decide)
    (hcd : (x == ("__classdict__" : Str)) = false := by decide) : GM X (.Name x pos) (tVar i) (aVarM i) := ⟨pe_var hN hv hd hcd, sn_varM⟩
theorem sn_c {K : Fg} {v : V} {d : D} (h : ∀ B, Dq K B v d) : SnE K (tC v) (aC d) := fun B0 H0 E σ B H r d' e Q q => by
  cases e
  exact q v B H (Fit.refl r.bh) (h B)
theorem ge_int {i j} : GE X (.Constant (.int i) j pos) (tC (.int i)) (aC (.int i)) := ⟨pe_int, sn_c fun _ => .int i⟩
theorem ge_bl {b j} : GE X (.Constant (.bool b) j pos) (tC (.bl b)) (aC (.bl b)) := ⟨pe_bl, sn_c fun _ => .bl b⟩
theorem ge_non {j} : GE X (.Constant .none j pos) (tC .non) (aC .non) := ⟨pe_non, sn_c fun _ => .non⟩
theorem ge_str {x j} : GE X (.Constant (.str x) j pos) (tC (.str x)) (aC (.str x)) := ⟨pe_str, sn_c fun _ => .str x⟩
/-- a module's constant int -/
theorem ge_gint {x : Str} {i : Int} {u : Value} (hg : Gl X x) (hm : X.mg x = some u) (r : RelV (.int i) u) (hd : (x == ("__debug__" : Str)) = false := by decide) : GE X (.Name x pos) (tC (.int i)) (aC (.int i)) := ⟨pe_glob hg hm r hd, sn_c fun _ => .int i⟩
end

/-! ## two operands -/
def a2 (f : D → D → Option D) (fa fb : AE) : AE := fun E => match fa E with
  | some x => match fb E with
    | some y => f x y
    | none => none
  | none => none
def al2 (f : D → D → Option (List D)) (fa fb : AE) : AA := fun E => match fa E with
  | some x => match fb E with
    | some y => f x y
    | none => none
  | none => none
def R2S (K : Fg) (r : R2) (f : D → D → Option D) : Prop := ∀ B H v1 v2 d1 d2 d, Same B H → Dm K B H v1 d1 → Dm K B H v2 d2 → f d1 d2 = some d → ∀ Q : VK, (∀ v B1 H1, Fit B H B1 H1 → Dq K B1 v d → Q v H1) → r v1 v2 H Q
def R2L (K : Fg) (r : R2) (f : D → D → Option (List D)) : Prop := ∀ B H v1 v2 d1 d2 ds, Same B H → Dm K B H v1 d1 → Dm K B H v2 d2 → f d1 d2 = some ds → ∀ Q : VK,
  (∀ p vs B1 H1, Fit B H B1 H1 → H p = none → B1 p = none → H1 p = some (.lst vs) → DqAll K B1 vs ds → Q (.ref p) H1) → r v1 v2 H Q
theorem sn_a2 {K : Fg} {r : R2} {f : D → D → Option D} {ta tb : TE} {fa fb : AE} (hr : R2S K r f) (ha : SnM K ta fa) (hb : SnM K tb fb) : SnE K (tOp r ta tb) (a2 f fa fb) := fun B0 H0 E σ B H rp d e Q q => by
  unfold a2 at e
  cases z1 : fa E with
  | none => rw [z1] at e; cases e
  | some x =>
    rw [z1] at e
    cases z2 : fb E with
    | none => rw [z2] at e; cases e
    | some y =>
      rw [z2] at e
      refine ha B0 H0 E σ B H rp x z1 _ fun v B1 H1 f1 h1 => ?_
      refine hb B0 H0 E σ B1 H1 (rp.on f1) y z2 _ fun w B2 H2 f2 h2 => ?_
      exact hr B2 H2 v w x y d f2.bh (h1.on f2) h2 e Q fun u B3 H3 f3 h3 => q u B3 H3 ((f1.trans f2).trans f3) h3
theorem sn_al2 {K : Fg} {r : R2} {f : D → D → Option (List D)} {ta tb : TE} {fa fb : AE} (hr : R2L K r f) (ha : SnM K ta fa) (hb : SnM K tb fb) : SnL K (tOp r ta tb) (al2 f fa fb) := fun B0 H0 E σ B H rp d e Q q => by
  unfold al2 at e
  cases z1 : fa E with
  | none => rw [z1] at e; cases e
  | some x =>
    rw [z1] at e
    cases z2 : fb E with
    | none => rw [z2] at e; cases e
    | some y =>
      rw [z2] at e
      refine ha B0 H0 E σ B H rp x z1 _ fun v B1 H1 f1 h1 => ?_
      refine hb B0 H0 E σ B1 H1 (rp.on f1) y z2 _ fun w B2 H2 f2 h2 => ?_
      exact hr B2 H2 v w x y d f2.bh (h1.on f2) h2 e Q fun u vs B3 H3 f3 hp hb3 hh h3 => q u vs B3 H3 ((f1.trans f2).trans f3) ((f1.trans f2).free hp) hb3 hh h3
theorem R2S.or1 {K : Fg} {r r' : R2} {f : D → D → Option D} (h : R2S K r f) : R2S K (fun x y H Q => r x y H Q ∨ r' x y H Q) f := fun B H v1 v2 d1 d2 d s a b e Q q => .inl (h B H v1 v2 d1 d2 d s a b e Q q)
section
variable {X : Cx} {a b c : Expr} {ta tb tc : TE} {fa fb fc : AE} {pos : Pos}
theorem ge_op {op : Operator} {r : R2} {f : D → D → Option D} (ho : OpR X (binaryOp op) r) (hs : R2S X.K r f) (ha : GM X a ta fa) (hb : GM X b tb fb) : GE X (.BinOp a op b pos) (tOp r ta tb) (a2 f fa fb) := ⟨pe_op ho ha.pe hb.pe, sn_a2 hs ha.sn hb.sn⟩
theorem gl_op {op : Operator} {r : R2} {f : D → D → Option (List D)} (ho : OpR X (binaryOp op) r) (hs : R2L X.K r f) (ha : GM X a ta fa) (hb : GM X b tb fb) : GL X (.BinOp a op b pos) (tOp r ta tb) (al2 f fa fb) := ⟨pe_op ho ha.pe hb.pe, sn_al2 hs ha.sn hb.sn⟩
theorem ge_ix {r : R2} {f : D → D → Option D} (hr : IxR X r) (hs : R2S X.K r f) (ha : GM X a ta fa) (hb : GM X b tb fb) (hp : PlainIx b := by intro _ _; rfl) : GE X (.Subscript a b pos) (tOp r ta tb) (a2 f fa fb) := ⟨pe_ix hr ha.pe hb.pe hp, sn_a2 hs ha.sn hb.sn⟩
/-- a comparison's answer -/
def bv (f : D → D → Option Bool) : D → D → Option D := fun x y => match f x y with
  | some b => some (.bl b)
  | none => none
theorem ge_cmp {op : CmpOp} {r : R2} {f : D → D → Option Bool} (ho : OpR X (compareOp op) r) (hs : R2S X.K r (bv f)) (ha : GM X a ta fa) (hb : GM X b tb fb) (hm : behindInMarks op b = false) : GE X (.Compare a [op] [b] pos) (tOp r ta tb) (a2 (bv f) fa fb) := ⟨pe_cmpR ho ha.pe hb.pe hm, sn_a2 hs ha.sn hb.sn⟩
def a2t (f : D → D → Option Bool) (fa fb : AE) : AT := fun E => match fa E with
  | some x => match fb E with
    | some y => f x y
    | none => none
  | none => none
theorem Dq.bl_of {K : Fg} {B : Hp} {v : V} {b : Bool} (h : Dq K B v (.bl b)) : v = .bl b := by cases h; rfl
theorem sn_tTest {K : Fg} {te : TE} {ae : AE} {at' : AT} (h : SnE K te ae) (he : ∀ E b, at' E = some b → ae E = some (.bl b)) : SnT K (tTest te) at' := fun B0 H0 E σ B H rp b e Q q =>
  h B0 H0 E σ B H rp _ (he E b e) _ fun v B1 H1 f1 h1 => ⟨b, h1.bl_of, q B1 H1 f1⟩
theorem a2t_bv {f : D → D → Option Bool} {fa fb : AE} (E : En) (b : Bool) (e : a2t f fa fb E = some b) : a2 (bv f) fa fb E = some (.bl b) := by
  unfold a2t at e
  unfold a2
  cases z1 : fa E with
  | none => rw [z1] at e; cases e
  | some x =>
    rw [z1] at e
    cases z2 : fb E with
    | none => rw [z2] at e; cases e
    | some y =>
      rw [z2] at e
      show bv f x y = _
      unfold bv
      rw [show f x y = some b from e]
theorem gt_cmp {op : CmpOp} {r : R2} {f : D → D → Option Bool} (ho : OpR X (compareOp op) r) (hs : R2S X.K r (bv f)) (ha : GM X a ta fa) (hb : GM X b tb fb) (hm : behindInMarks op b = false) : GT X (.Compare a [op] [b] pos) (tTest (tOp r ta tb)) (a2t f fa fb) :=
  ⟨pt_cmpR ho ha.pe hb.pe hm, sn_tTest (sn_a2 hs ha.sn hb.sn) a2t_bv⟩
/-- a op b op' c -/
def aCh (f g : D → D → Option Bool) (fa fb fc : AE) : AT := fun E => match fa E with
  | some x => match fb E with
    | some y => match f x y with
      | some true => match fc E with
        | some z => g y z
        | none => none
      | some false => some false
      | none => none
    | none => none
  | none => none
def aB (t : AT) : AE := fun E => match t E with
  | some b => some (.bl b)
  | none => none
theorem sn_ch {K : Fg} {r r' : R2} {f g : D → D → Option Bool} (hr : R2S K r (bv f)) (hr' : R2S K r' (bv g)) (ha : SnM K ta fa) (hb : SnM K tb fb) (hc : SnM K tc fc) : SnE K (tChain r r' ta tb tc) (aB (aCh f g fa fb fc)) := fun B0 H0 E σ B H rp d e Q q => by
  unfold aB aCh at e
  cases z1 : fa E with
  | none => rw [z1] at e; cases e
  | some x =>
    rw [z1] at e
    cases z2 : fb E with
    | none => rw [z2] at e; cases e
    | some y =>
      rw [z2] at e
      dsimp only at e
      cases zf : f x y with
      | none => rw [zf] at e; cases e
      | some k =>
        rw [zf] at e
        refine ha B0 H0 E σ B H rp x z1 _ fun v B1 H1 f1 h1 => ?_
        refine hb B0 H0 E σ B1 H1 (rp.on f1) y z2 _ fun w B2 H2 f2 h2 => ?_
        refine hr B2 H2 v w x y (.bl k) f2.bh (h1.on f2) h2 (by unfold bv; rw [zf]) _ fun u B3 H3 f3 h3 => ⟨k, h3.bl_of, ?_⟩
        cases k with
        | false =>
          cases e
          exact q _ B3 H3 ((f1.trans f2).trans f3) (.bl false)
        | true =>
          dsimp only at e
          cases z3 : fc E with
          | none => rw [z3] at e; cases e
          | some z =>
            rw [z3] at e
            dsimp only at e
            cases zg : g y z with
            | none => rw [zg] at e; cases e
            | some k2 =>
              rw [zg] at e
              cases e
              refine hc B0 H0 E σ B3 H3 (rp.on ((f1.trans f2).trans f3)) z z3 _ fun w' B4 H4 f4 h4 => ?_
              exact hr' B4 H4 w w' y z (.bl k2) f4.bh ((h2.on f3).on f4) h4 (by unfold bv; rw [zg]) Q fun u B5 H5 f5 h5 => q u B5 H5 (((f1.trans f2).trans f3).trans (f4.trans f5)) h5
theorem ge_ch {op op' : CmpOp} {r r' : R2} {f g : D → D → Option Bool} (ho : OpR X (compareOp op) r) (ho' : OpR X (compareOp op') r') (hr : R2S X.K r (bv f)) (hr' : R2S X.K r' (bv g)) (ha : GM X a ta fa) (hb : GM X b tb fb) (hc : GM X c tc fc)
    (hm : lastMarks [op, op'] [b, c] = false := by with_unfolding_all rfl) : GE X (.Compare a [op, op'] [b, c] pos) (tChain r r' ta tb tc) (aB (aCh f g fa fb fc)) := ⟨pe_chain ho ho' ha.pe hb.pe hc.pe hm, sn_ch hr hr' ha.sn hb.sn hc.sn⟩
theorem gt_ch {op op' : CmpOp} {r r' : R2} {f g : D → D → Option Bool} (ho : OpR X (compareOp op) r) (ho' : OpR X (compareOp op') r') (hr : R2S X.K r (bv f)) (hr' : R2S X.K r' (bv g)) (ha : GM X a ta fa) (hb : GM X b tb fb) (hc : GM X c tc fc)
    (hm : lastMarks [op, op'] [b, c] = false := by with_unfolding_all rfl) : GT X (.Compare a [op, op'] [b, c] pos) (tTest (tChain r r' ta tb tc)) (aCh f g fa fb fc) :=
  ⟨pt_chain ho ho' ha.pe hb.pe hc.pe hm, sn_tTest (sn_ch hr hr' ha.sn hb.sn hc.sn) fun E b e => by unfold aB; rw [e]⟩
end

/-! ## truth, and, or, not, if -/
def tru : D → Option Bool
  | .non => some false
  | .bl b => some b
  | .int i => some (i != 0)
  | .str s => if s.length ≤ 100000 then some ((s.length : Int) != 0) else none
  | .lst xs => some (!xs.isEmpty)
  | .tup xs => some (!xs.isEmpty)
  | .scr ns => some (!ns.isEmpty)
  | .obj _ => none
theorem sz_of {n : Nat} (h : n ≤ 100000) : n ≤ sizeLine := Nat.le_trans h (by decide)
theorem sz_lt {n : Nat} (h : n < 100000) : n < sizeLine := Nat.lt_of_lt_of_le h (by decide)
theorem isEmpty_dq {K : Fg} {B : Hp} {vs : List V} {ds : List D} (h : DqAll K B vs ds) : vs.isEmpty = ds.isEmpty := by cases h <;> rfl
theorem tru_ok {K : Fg} {B H : Hp} {v : V} {d : D} {b : Bool} (e : Same B H) (h : Dm K B H v d) (hb : tru d = some b) : TruV K v H b := by
  cases d with
  | non => rw [h.non]; cases hb; rfl
  | bl c => rw [h.bl]; cases hb; rfl
  | int i => rw [h.int]; cases hb; rfl
  | str s =>
    rw [h.str]
    have hb : (if s.length ≤ 100000 then some ((s.length : Int) != 0) else none) = some b := hb
    split at hb
    · cases hb
      exact ⟨sz_of (by assumption), rfl⟩
    · cases hb
  | lst xs =>
    obtain ⟨p, vs, rfl, hh, q⟩ := h.lst e
    cases hb
    exact .inl ⟨vs, SqL.of hh, by rw [isEmpty_dq q]⟩
  | tup xs =>
    obtain ⟨p, vs, rfl, hh, hh', q⟩ := h.tup e
    cases hb
    exact .inr (.inl ⟨vs, SqT.of hh', by rw [isEmpty_dq q]⟩)
  | scr ns =>
    obtain ⟨a, rfl, hs⟩ := h.scr e
    cases hb
    exact .inl ⟨_, hs, by cases ns <;> rfl⟩
  | obj a => cases hb
def aTr (ae : AE) : AT := fun E => match ae E with
  | some d => tru d
  | none => none
section
variable {X : Cx} {a b c : Expr} {ta tb tc : TE} {fa fb fc : AE} {pos : Pos} {tA tB : TT} {gA gB : AT} {rest : List Expr}
def tTru (K : Fg) (ta : TE) : TT := fun σ H Q => ta σ H fun x H1 => ∃ k, TruV K x H1 k ∧ Q k H1
theorem gt_tru (ha : GM X a ta fa) (he : ∀ whole, isTrue a X.env whole = (do let v ← whole; standAt a.pos; holding [v] (truthy v)) := by intro _; rfl) : GT X a (tTru X.K ta) (aTr fa) :=
  ⟨pt_truth ha.pe he, fun B0 H0 E σ B H rp b e Q q => by
    unfold aTr at e
    cases z : fa E with
    | none => rw [z] at e; cases e
    | some d =>
      rw [z] at e
      exact ha.sn B0 H0 E σ B H rp d z _ fun v B1 H1 f1 h1 => ⟨b, tru_ok f1.bh h1 e, q B1 H1 f1⟩⟩
def tAnd' (f g : AT) : AT := fun E => match f E with
  | some true => g E
  | some false => some false
  | none => none
def tOr' (f g : AT) : AT := fun E => match f E with
  | some true => some true
  | some false => g E
  | none => none
def tNot' (f : AT) : AT := fun E => match f E with
  | some b => some (!b)
  | none => none
theorem gw_and1 (h : GT X a tA gA) : GW X (.BoolOp .And [a] pos) tA gA := ⟨pw_and1 h.pt, h.sn⟩
theorem gw_or1 (h : GT X a tA gA) : GW X (.BoolOp .Or [a] pos) tA gA := ⟨pw_or1 h.pt, h.sn⟩
theorem gw_and (h : GT X a tA gA) (h2 : GW X (.BoolOp .And (b :: rest) pos) tB gB) : GW X (.BoolOp .And (a :: b :: rest) pos) (tAnd tA tB) (tAnd' gA gB) := ⟨pw_and h.pt h2.pw, fun B0 H0 E σ B H rp k e Q q => by
  unfold tAnd' at e
  cases z : gA E with
  | none => rw [z] at e; cases e
  | some d =>
    rw [z] at e
    refine h.sn B0 H0 E σ B H rp d z _ fun B1 H1 f1 => ?_
    cases d with
    | true => exact iteT (h2.sn B0 H0 E σ B1 H1 (rp.on f1) k e Q fun B2 H2 f2 => q B2 H2 (f1.trans f2))
    | false => cases e; exact iteF (q B1 H1 f1)⟩
theorem gw_or (h : GT X a tA gA) (h2 : GW X (.BoolOp .Or (b :: rest) pos) tB gB) : GW X (.BoolOp .Or (a :: b :: rest) pos) (tOr tA tB) (tOr' gA gB) := ⟨pw_or h.pt h2.pw, fun B0 H0 E σ B H rp k e Q q => by
  unfold tOr' at e
  cases z : gA E with
  | none => rw [z] at e; cases e
  | some d =>
    rw [z] at e
    refine h.sn B0 H0 E σ B H rp d z _ fun B1 H1 f1 => ?_
    cases d with
    | false => exact iteF (h2.sn B0 H0 E σ B1 H1 (rp.on f1) k e Q fun B2 H2 f2 => q B2 H2 (f1.trans f2))
    | true => cases e; exact iteT (q B1 H1 f1)⟩
theorem gt_not (h : GT X a tA gA) : GT X (.UnaryOp .Not a pos) (tNot tA) (tNot' gA) := ⟨pt_not h.pt, fun B0 H0 E σ B H rp k e Q q => by
  unfold tNot' at e
  cases z : gA E with
  | none => rw [z] at e; cases e
  | some d =>
    rw [z] at e
    cases e
    exact h.sn B0 H0 E σ B H rp d z _ fun B1 H1 f1 => q B1 H1 f1⟩
/-! as values, of bools -/
def vAnd (f g : AE) : AE := fun E => match f E with
  | some (.bl true) => g E
  | some (.bl false) => some (.bl false)
  | _ => none
def vOr (f g : AE) : AE := fun E => match f E with
  | some (.bl true) => some (.bl true)
  | some (.bl false) => g E
  | _ => none
def vNot (f : AE) : AE := fun E => match f E with
  | some (.bl b) => some (.bl (!b))
  | _ => none
theorem ge_one {op} (h : GE X a ta fa) : GE X (.BoolOp op [a] pos) ta fa := ⟨pe_one h.pe, h.sn⟩
theorem ge_and (h : GE X a ta fa) (h2 : GE X (.BoolOp .And (b :: rest) pos) tb fb) : GE X (.BoolOp .And (a :: b :: rest) pos) (tAndV ta tb) (vAnd fa fb) := ⟨pe_and h.pe h2.pe, fun B0 H0 E σ B H rp k e Q q => by
  unfold vAnd at e
  cases z : fa E with
  | none => rw [z] at e; cases e
  | some d =>
    rw [z] at e
    refine h.sn B0 H0 E σ B H rp d z _ fun v B1 H1 f1 h1 => ?_
    cases d with
    | bl c =>
      refine ⟨c, h1.bl_of, ?_⟩
      cases c with
      | true => exact iteT (h2.sn B0 H0 E σ B1 H1 (rp.on f1) k e Q fun u B2 H2 f2 => q u B2 H2 (f1.trans f2))
      | false => cases e; exact iteF (q _ B1 H1 f1 (.bl false))
    | _ => cases e⟩
theorem ge_or (h : GE X a ta fa) (h2 : GE X (.BoolOp .Or (b :: rest) pos) tb fb) : GE X (.BoolOp .Or (a :: b :: rest) pos) (tOrV ta tb) (vOr fa fb) := ⟨pe_or h.pe h2.pe, fun B0 H0 E σ B H rp k e Q q => by
  unfold vOr at e
  cases z : fa E with
  | none => rw [z] at e; cases e
  | some d =>
    rw [z] at e
    refine h.sn B0 H0 E σ B H rp d z _ fun v B1 H1 f1 h1 => ?_
    cases d with
    | bl c =>
      refine ⟨c, h1.bl_of, ?_⟩
      cases c with
      | false => exact iteF (h2.sn B0 H0 E σ B1 H1 (rp.on f1) k e Q fun u B2 H2 f2 => q u B2 H2 (f1.trans f2))
      | true => cases e; exact iteT (q _ B1 H1 f1 (.bl true))
    | _ => cases e⟩
/-- not e as a value: by the test's rule -/
theorem sn_notV {K : Fg} (h : SnE K ta fa) : SnE K (tNotV ta) (vNot fa) := fun B0 H0 E σ B H rp k e Q q => by
  unfold vNot at e
  cases z : fa E with
  | none => rw [z] at e; cases e
  | some d =>
    rw [z] at e
    refine h B0 H0 E σ B H rp d z _ fun v B1 H1 f1 h1 => ?_
    cases d with
    | bl c =>
      cases e
      exact ⟨c, h1.bl_of, q _ B1 H1 f1 (.bl _)⟩
    | _ => cases e
theorem ge_not (h : GE X a ta fa) : GE X (.UnaryOp .Not a pos) (tNotV ta) (vNot fa) := ⟨pe_not h.pe, sn_notV h.sn⟩
def aIf (t : AT) (f g : AE) : AE := fun E => match t E with
  | some true => f E
  | some false => g E
  | none => none
theorem ge_if (hc : GT X c tA gA) (ha : GE X a ta fa) (hb : GE X b tb fb) : GE X (.IfExp c a b pos) (tIf tA ta tb) (aIf gA fa fb) := ⟨pe_ifExp hc.pt ha.pe hb.pe, fun B0 H0 E σ B H rp k e Q q => by
  unfold aIf at e
  cases z : gA E with
  | none => rw [z] at e; cases e
  | some d =>
    rw [z] at e
    refine hc.sn B0 H0 E σ B H rp d z _ fun B1 H1 f1 => ?_
    cases d with
    | true => exact iteT (ha.sn B0 H0 E σ B1 H1 (rp.on f1) k e Q fun u B2 H2 f2 => q u B2 H2 (f1.trans f2))
    | false => exact iteF (hb.sn B0 H0 E σ B1 H1 (rp.on f1) k e Q fun u B2 H2 f2 => q u B2 H2 (f1.trans f2))⟩

/-! ## displays, argument lists -/
variable {es : List Expr} {e : Expr} {te : TE} {tes : TA} {ae : AE} {aes : AA}
def aNil : AA := fun _ => some []
def aCons (f : AE) (g : AA) : AA := fun E => match f E with
  | some d => match g E with
    | some ds => some (d :: ds)
    | none => none
  | none => none
theorem ga_nil : GA X [] tNil aNil := ⟨pa_nil, fun B0 H0 E σ B H rp k e Q q => by cases e; exact q [] B H (Fit.refl rp.bh) .nil, fun E ds e => by cases e; rfl⟩
theorem ga_cons (h : GE X e te ae) (hr : GA X es tes aes) (hs : starEach (e :: es) X.env = (false, eval e X.env) :: starEach es X.env := by rfl) : GA X (e :: es) (tCons te tes) (aCons ae aes) := ⟨pa_cons h.pe hr.pa hs, fun B0 H0 E σ B H rp k e Q q => by
  unfold aCons at e
  cases z : ae E with
  | none => rw [z] at e; cases e
  | some d =>
    rw [z] at e
    cases z2 : aes E with
    | none => rw [z2] at e; cases e
    | some ds =>
      rw [z2] at e
      cases e
      refine h.sn B0 H0 E σ B H rp d z _ fun v B1 H1 f1 h1 => ?_
      exact hr.sn B0 H0 E σ B1 H1 (rp.on f1) ds z2 _ fun vs B2 H2 f2 h2 => q (v :: vs) B2 H2 (f1.trans f2) (.cons (h1.mono f2.bb) h2), fun E ds e => by
  unfold aCons at e
  cases z : ae E with
  | none => rw [z] at e; cases e
  | some d =>
    rw [z] at e
    cases z2 : aes E with
    | none => rw [z2] at e; cases e
    | some ds =>
      rw [z2] at e
      cases e
      rw [List.length_cons, List.length_cons, hr.ln E ds z2]⟩
theorem gb_nil : GB X [] tNil aNil := ⟨pa_nil, fun B0 H0 E σ B H rp k e Q q => by cases e; exact q [] B H (Fit.refl rp.bh) trivial⟩
theorem gb_cons (h : GM X e te ae) (hr : GB X es tes aes) (hs : starEach (e :: es) X.env = (false, eval e X.env) :: starEach es X.env := by rfl) : GB X (e :: es) (tCons te tes) (aCons ae aes) := ⟨pa_cons h.pe hr.pa hs, fun B0 H0 E σ B H rp k e Q q => by
  unfold aCons at e
  cases z : ae E with
  | none => rw [z] at e; cases e
  | some d =>
    rw [z] at e
    cases z2 : aes E with
    | none => rw [z2] at e; cases e
    | some ds =>
      rw [z2] at e
      cases e
      refine h.sn B0 H0 E σ B H rp d z _ fun v B1 H1 f1 h1 => ?_
      exact hr.sn B0 H0 E σ B1 H1 (rp.on f1) ds z2 _ fun vs B2 H2 f2 h2 => q (v :: vs) B2 H2 (f1.trans f2) ⟨h1.on f2, h2⟩⟩
def aTup (al : AA) : AE := fun E => match al E with
  | some ds => some (.tup ds)
  | none => none
theorem ge_tup {x1} (h : GA X es tes aes) (hl : es.length ≤ 1000 := by decide) : GE X (.Tuple es x1 pos) (tTup tes) (aTup aes) := ⟨pe_tup h.pa, fun B0 H0 E σ B H rp k e Q q => by
  unfold aTup at e
  cases z : aes E with
  | none => rw [z] at e; cases e
  | some ds =>
    rw [z] at e
    cases e
    refine h.sn B0 H0 E σ B H rp ds z _ fun vs B1 H1 f1 h1 => ⟨?_, fun p hp => ?_⟩
    · rw [h1.length, h.ln E ds z]
      exact sz_of (by omega)
    · exact q _ _ _ (f1.trans (Fit.new f1.bh hp)) (.tup upd_same (h1.mono (same_new (f1.bh.free hp))))⟩
theorem gl_lst (h : GA X es tes aes) (hl : es.length ≤ 1000 := by decide) : GL X (.List es pos) (tLst tes) aes := ⟨pe_lst h.pa, fun B0 H0 E σ B H rp ds z Q q => by
  refine h.sn B0 H0 E σ B H rp ds z _ fun vs B1 H1 f1 h1 => ⟨?_, fun p hp => ?_⟩
  · rw [h1.length, h.ln E ds z]
    exact sz_of (by omega)
  · exact q p vs B1 _ (f1.trans (Fit.grow f1.bh (same_new hp))) (f1.free hp) (f1.bh.free hp) upd_same h1⟩
end
end Rf
set_option Elab.async false
set_option linter.all false
set_option maxRecDepth 100000
set_option maxHeartbeats 4000000
namespace Rf
open PySem L2

/-! ## equality of data -/
mutual
def deq : D → D → Bool
  | .non, .non => true
  | .bl a, .bl b => a == b
  | .bl a, .int j => (if a then 1 else 0) == j
  | .int i, .bl b => i == (if b then 1 else 0)
  | .int i, .int j => i == j
  | .str x, .str y => x == y
  | .lst xs, .lst ys => deqs xs ys
  | .tup xs, .tup ys => deqs xs ys
  | _, _ => false
def deqs : List D → List D → Bool
  | [], [] => true
  | x :: xs, y :: ys => deq x y && deqs xs ys
  | _, _ => false
end
mutual
/-- plain data to a depth -/
def pl : D → Nat → Bool
  | .lst xs, n + 1 => pls xs n
  | .tup xs, n + 1 => pls xs n
  | .lst _, 0 => false
  | .tup _, 0 => false
  | .scr _, _ => false
  | .obj _, _ => false
  | .non, _ => true
  | .bl _, _ => true
  | .int _, _ => true
  | .str _, _ => true
def pls : List D → Nat → Bool
  | [], _ => true
  | x :: xs, n => pl x n && pls xs n
end
mutual
def toPy : D → PyData
  | .non => .none
  | .bl b => .bool b
  | .int i => .int i
  | .str s => .str s
  | .lst xs => .list (toPys xs)
  | .tup xs => .tuple (toPys xs)
  | .scr ns => .list (ns.map .int)
  | .obj _ => .dict []
def toPys : List D → List PyData
  | [] => []
  | x :: xs => toPy x :: toPys xs
end
theorem toPys_map : ∀ xs : List D, toPys xs = xs.map toPy
  | [] => by rw [toPys]; rfl
  | x :: xs => by rw [toPys, toPys_map xs]; rfl
mutual
theorem pl_plain : ∀ (d : D) (n : Nat), pl d n = true → (toPy d).plain = true ∧ (toPy d).depth ≤ n
  | .non, _, _ => by rw [toPy]; exact ⟨rfl, by simp [PyData.depth]⟩
  | .bl _, _, _ => by rw [toPy]; exact ⟨rfl, by simp [PyData.depth]⟩
  | .int _, _, _ => by rw [toPy]; exact ⟨rfl, by simp [PyData.depth]⟩
  | .str _, _, _ => by rw [toPy]; exact ⟨rfl, by simp [PyData.depth]⟩
  | .lst xs, 0, h => by rw [pl] at h; cases h
  | .tup xs, 0, h => by rw [pl] at h; cases h
  | .lst xs, n + 1, h => by
    rw [pl] at h
    obtain ⟨h1, h2⟩ := pls_plain xs n h
    rw [toPy]
    exact ⟨by simpa [PyData.plain] using h1, by simp only [PyData.depth]; omega⟩
  | .tup xs, n + 1, h => by
    rw [pl] at h
    obtain ⟨h1, h2⟩ := pls_plain xs n h
    rw [toPy]
    exact ⟨by simpa [PyData.plain] using h1, by simp only [PyData.depth]; omega⟩
  | .scr _, _, h => by rw [pl] at h; cases h
  | .obj _, _, h => by rw [pl] at h; cases h
theorem pls_plain : ∀ (ds : List D) (n : Nat), pls ds n = true → PyData.plainAll (toPys ds) = true ∧ PyData.depthAll (toPys ds) ≤ n
  | [], n, _ => by rw [toPys]; exact ⟨rfl, by simp [PyData.depthAll]⟩
  | d :: ds, n, h => by
    rw [pls, Bool.and_eq_true] at h
    obtain ⟨h1, h2⟩ := pl_plain d n h.1
    obtain ⟨h3, h4⟩ := pls_plain ds n h.2
    rw [toPys]
    exact ⟨by simp [PyData.plainAll, h1, h3], by simp only [PyData.depthAll]; omega⟩
end
mutual
theorem eqv_deq : ∀ (d e : D) (n m : Nat), pl d n = true → pl e m = true → PyData.eqv (toPy d) (toPy e) = deq d e
  | .scr _, _, _, _, h, _ => by rw [pl] at h; cases h
  | .obj _, _, _, _, h, _ => by rw [pl] at h; cases h
  | d, .scr _, _, _, _, h => by rw [pl] at h; cases h
  | d, .obj _, _, _, _, h => by rw [pl] at h; cases h
  | .lst xs, .lst ys, n, m, h, h' => by
    cases n with
    | zero => rw [pl] at h; cases h
    | succ n =>
      cases m with
      | zero => rw [pl] at h'; cases h'
      | succ m =>
        rw [pl] at h h'
        simp only [toPy, PyData.eqv, deq]
        exact eqv_deqs xs ys n m h h'
  | .tup xs, .tup ys, n, m, h, h' => by
    cases n with
    | zero => rw [pl] at h; cases h
    | succ n =>
      cases m with
      | zero => rw [pl] at h'; cases h'
      | succ m =>
        rw [pl] at h h'
        simp only [toPy, PyData.eqv, deq]
        exact eqv_deqs xs ys n m h h'
  | .non, e, _, _, _, _ => by cases e <;> simp only [toPy, PyData.eqv, deq]
  | .bl _, e, _, _, _, _ => by cases e <;> simp only [toPy, PyData.eqv, deq]
  | .int _, e, _, _, _, _ => by cases e <;> simp only [toPy, PyData.eqv, deq]
  | .str _, e, _, _, _, _ => by cases e <;> simp only [toPy, PyData.eqv, deq]
  | .lst _, .non, _, _, _, _ => by simp only [toPy, PyData.eqv, deq]
  | .lst _, .bl _, _, _, _, _ => by simp only [toPy, PyData.eqv, deq]
  | .lst _, .int _, _, _, _, _ => by simp only [toPy, PyData.eqv, deq]
  | .lst _, .str _, _, _, _, _ => by simp only [toPy, PyData.eqv, deq]
  | .lst _, .tup _, _, _, _, _ => by simp only [toPy, PyData.eqv, deq]
  | .tup _, .non, _, _, _, _ => by simp only [toPy, PyData.eqv, deq]
  | .tup _, .bl _, _, _, _, _ => by simp only [toPy, PyData.eqv, deq]
  | .tup _, .int _, _, _, _, _ => by simp only [toPy, PyData.eqv, deq]
  | .tup _, .str _, _, _, _, _ => by simp only [toPy, PyData.eqv, deq]
  | .tup _, .lst _, _, _, _, _ => by simp only [toPy, PyData.eqv, deq]
theorem eqv_deqs : ∀ (ds es : List D) (n m : Nat), pls ds n = true → pls es m = true → PyData.eqvAll (toPys ds) (toPys es) = deqs ds es
  | [], [], _, _, _, _ => by simp only [toPys, PyData.eqvAll, deqs]
  | [], _ :: _, _, _, _, _ => by simp only [toPys, PyData.eqvAll, deqs]
  | _ :: _, [], _, _, _, _ => by simp only [toPys, PyData.eqvAll, deqs]
  | d :: ds, e :: es, n, m, h, h' => by
    rw [pls, Bool.and_eq_true] at h h'
    simp only [toPys, PyData.eqvAll, deqs]
    rw [eqv_deq d e n m h.1 h'.1, eqv_deqs ds es n m h.2 h'.2]
end
section
variable {K : Fg} {B H : Hp}
mutual
theorem dq_dp : ∀ (d : D) (v : V), (∀ a, d ≠ .obj a) → pl d 100 = true ∨ True → Dq K B v d → pl d 100 = true → Dp K B v (toPy d)
  | .non, _, _, _, h, _ => by cases h; rw [toPy]; exact .non
  | .bl _, _, _, _, h, _ => by cases h; rw [toPy]; exact .bl _
  | .int _, _, _, _, h, _ => by cases h; rw [toPy]; exact .int _
  | .str _, _, _, _, h, _ => by cases h; rw [toPy]; exact .str _
  | .lst ds, _, _, _, h, p => by
    cases h with
    | lst ha hd =>
      rw [toPy]
      exact .lst (SqL.of ha) (dqAll_dp ds _ 99 hd (by rw [pl] at p; exact p))
  | .tup ds, _, _, _, h, p => by
    cases h with
    | tup ha hd =>
      rw [toPy]
      exact .tup (SqT.of ha) (dqAll_dp ds _ 99 hd (by rw [pl] at p; exact p))
  | .scr _, _, _, _, _, p => by rw [pl] at p; cases p
  | .obj _, _, _, _, _, p => by rw [pl] at p; cases p
theorem dqAll_dp : ∀ (ds : List D) (vs : List V) (n : Nat), DqAll K B vs ds → pls ds n = true → DpAll K B vs (toPys ds)
  | [], _, _, h, _ => by cases h; rw [toPys]; exact .nil
  | d :: ds, _, n, h, p => by
    cases h with
    | cons h1 h2 =>
      rw [pls, Bool.and_eq_true] at p
      rw [toPys]
      refine .cons ?_ (dqAll_dp ds _ n h2 p.2)
      cases d with
      | non => cases h1; rw [toPy]; exact .non
      | bl _ => cases h1; rw [toPy]; exact .bl _
      | int _ => cases h1; rw [toPy]; exact .int _
      | str _ => cases h1; rw [toPy]; exact .str _
      | lst xs =>
        cases h1 with
        | lst ha hd =>
          rw [toPy]
          cases n with
          | zero => rw [pl] at p; cases p.1
          | succ n => rw [pl] at p; exact .lst (SqL.of ha) (dqAll_dp xs _ n hd p.1)
      | tup xs =>
        cases h1 with
        | tup ha hd =>
          rw [toPy]
          cases n with
          | zero => rw [pl] at p; cases p.1
          | succ n => rw [pl] at p; exact .tup (SqT.of ha) (dqAll_dp xs _ n hd p.1)
      | scr _ => rw [pl] at p; cases p.1
      | obj _ => rw [pl] at p; cases p.1
end
theorem Dm.dp {v : V} {d : D} {n : Nat} (e : Same B H) (h : Dm K B H v d) (p : pl d n = true) : Dp K H v (toPy d) := by
  have q : ∀ {vs : List V} {ds : List D} {n : Nat}, DqAll K B vs ds → pls ds n = true → DpAll K H vs (toPys ds) := fun h p => dqAll_dp _ _ _ (h.mono e) p
  cases d with
  | non => rw [h.non, toPy]; exact .non
  | bl _ => rw [h.bl, toPy]; exact .bl _
  | int _ => rw [h.int, toPy]; exact .int _
  | str _ => rw [h.str, toPy]; exact .str _
  | lst xs =>
    obtain ⟨a, vs, rfl, hh, hd⟩ := h.lst e
    rw [toPy]
    cases n with
    | zero => rw [pl] at p; cases p
    | succ n => rw [pl] at p; exact .lst (SqL.of hh) (q hd p)
  | tup xs =>
    obtain ⟨a, vs, rfl, hb, hh, hd⟩ := h.tup e
    rw [toPy]
    cases n with
    | zero => rw [pl] at p; cases p
    | succ n => rw [pl] at p; exact .tup (SqT.of hh) (q hd p)
  | scr _ => rw [pl] at p; cases p
  | obj _ => rw [pl] at p; cases p
end
def dEq (d e : D) : Option Bool := if pl d 8 && pl e 8 then some (deq d e) else none
def dNe (d e : D) : Option Bool := if pl d 8 && pl e 8 then some (!deq d e) else none
def rEqP (K : Fg) : R2 := fun x y H Q => ∃ d e : PyData, Dp K H x d ∧ Dp K H y e ∧ d.plain = true ∧ e.plain = true ∧ d.depth ≤ 8 ∧ Q (.bl (PyData.eqv d e)) H
def rNeP (K : Fg) : R2 := fun x y H Q => ∃ d e : PyData, Dp K H x d ∧ Dp K H y e ∧ d.plain = true ∧ e.plain = true ∧ d.depth ≤ 8 ∧ Q (.bl (!PyData.eqv d e)) H
section
variable {X : Cx}
theorem op_eqP (hu : X.A.units + 64 < cLine) : OpR X (compareOp .Eq) (rEqP X.K) := by
  intro pins s σ H x y v u Q I rx ry h
  obtain ⟨d, e, hd, he, sd, se, sl, q⟩ := h
  obtain ⟨as, r1⟩ := Dp.reads I d x v hd rx
  obtain ⟨bs, r2⟩ := Dp.reads I e y u he ry
  exact SeqAt.eq_plain r1 r2 sd se (by have : min d.depth e.depth ≤ d.depth := Nat.min_le_left _ _; omega) ⟨.bl _, H, I, rfl, q⟩
theorem op_neP (hu : X.A.units + 64 < cLine) : OpR X (compareOp .NotEq) (rNeP X.K) := by
  intro pins s σ H x y v u Q I rx ry h
  obtain ⟨d, e, hd, he, sd, se, sl, q⟩ := h
  obtain ⟨as, r1⟩ := Dp.reads I d x v hd rx
  obtain ⟨bs, r2⟩ := Dp.reads I e y u he ry
  exact SeqAt.ne_plain r1 r2 sd se (by have : min d.depth e.depth ≤ d.depth := Nat.min_le_left _ _; omega) ⟨.bl _, H, I, rfl, q⟩
end
theorem r2_eq {K : Fg} : R2S K (rEqP K) (bv dEq) := fun B H v1 v2 d1 d2 d s a b e Q q => by
  unfold bv dEq at e
  split at e
  · rename_i k hk
    split at hk
    · rename_i hp
      rw [Bool.and_eq_true] at hp
      cases hk
      cases e
      refine ⟨toPy d1, toPy d2, a.dp s hp.1, b.dp s hp.2, (pl_plain d1 8 hp.1).1, (pl_plain d2 8 hp.2).1, (pl_plain d1 8 hp.1).2, ?_⟩
      rw [eqv_deq d1 d2 8 8 hp.1 hp.2]
      exact q _ B H (Fit.refl s) (.bl _)
    · cases hk
  · cases e
theorem r2_ne {K : Fg} : R2S K (rNeP K) (bv dNe) := fun B H v1 v2 d1 d2 d s a b e Q q => by
  unfold bv dNe at e
  split at e
  · rename_i k hk
    split at hk
    · rename_i hp
      rw [Bool.and_eq_true] at hp
      cases hk
      cases e
      refine ⟨toPy d1, toPy d2, a.dp s hp.1, b.dp s hp.2, (pl_plain d1 8 hp.1).1, (pl_plain d2 8 hp.2).1, (pl_plain d1 8 hp.1).2, ?_⟩
      rw [eqv_deq d1 d2 8 8 hp.1 hp.2]
      exact q _ B H (Fit.refl s) (.bl _)
    · cases hk
  · cases e
/-! x in xs, of data -/
def dIn (x : D) : D → Option Bool
  | .lst ys => if pl x 8 && pls ys 8 then some (ys.any fun y => deq y x) else none
  | .tup ys => if pl x 8 && pls ys 8 then some (ys.any fun y => deq y x) else none
  | _ => none
def dNin (x : D) (y : D) : Option Bool := match dIn x y with
  | some b => some (!b)
  | none => none
def rInP (K : Fg) : R2 := fun x y H Q => ∃ (d : PyData) (es : List PyData), Dp K H x d ∧ (Dp K H y (.list es) ∨ Dp K H y (.tuple es)) ∧ d.plain = true ∧ PyData.plainAll es = true ∧ d.depth ≤ 8 ∧ Q (.bl (es.any fun z => PyData.eqv z d)) H
def rNinP (K : Fg) : R2 := fun x y H Q => ∃ (d : PyData) (es : List PyData), Dp K H x d ∧ (Dp K H y (.list es) ∨ Dp K H y (.tuple es)) ∧ d.plain = true ∧ PyData.plainAll es = true ∧ d.depth ≤ 8 ∧ Q (.bl (!es.any fun z => PyData.eqv z d)) H
section
variable {X : Cx}
theorem op_inP (hu : X.A.units + 64 < cLine) : OpR X (compareOp .In) (rInP X.K) := by
  intro pins s σ H x y v u Q I rx ry h
  obtain ⟨d, es, hd, he, sd, se, sl, q⟩ := h
  obtain ⟨as, r1⟩ := Dp.reads I d x v hd rx
  have hr : X.A.units + 1 + min (PyData.depthAll es) d.depth < cLine := by have : min (PyData.depthAll es) d.depth ≤ d.depth := Nat.min_le_right _ _; omega
  rcases he with he | he
  · obtain ⟨bs, r2⟩ := Dp.reads I _ y u he ry
    exact SeqAt.in_list_data r2 r1 se sd hr ⟨.bl _, H, I, rfl, q⟩
  · obtain ⟨bs, r2⟩ := Dp.reads I _ y u he ry
    exact SeqAt.in_tuple_data r2 r1 se sd hr ⟨.bl _, H, I, rfl, q⟩
theorem op_ninP (hu : X.A.units + 64 < cLine) : OpR X (compareOp .NotIn) (rNinP X.K) := by
  intro pins s σ H x y v u Q I rx ry h
  obtain ⟨d, es, hd, he, sd, se, sl, q⟩ := h
  obtain ⟨as, r1⟩ := Dp.reads I d x v hd rx
  have hr : X.A.units + 1 + min (PyData.depthAll es) d.depth < cLine := by have : min (PyData.depthAll es) d.depth ≤ d.depth := Nat.min_le_right _ _; omega
  rcases he with he | he
  · obtain ⟨bs, r2⟩ := Dp.reads I _ y u he ry
    exact SeqAt.notIn_list_data r2 r1 se sd hr ⟨.bl _, H, I, rfl, q⟩
  · obtain ⟨bs, r2⟩ := Dp.reads I _ y u he ry
    exact SeqAt.notIn_tuple_data r2 r1 se sd hr ⟨.bl _, H, I, rfl, q⟩
end
theorem any_eqv : ∀ (ys : List D) (x : D) (n m : Nat), pls ys n = true → pl x m = true → ((toPys ys).any fun z => PyData.eqv z (toPy x)) = ys.any fun y => deq y x
  | [], _, _, _, _, _ => by rw [toPys]; rfl
  | y :: ys, x, n, m, h, p => by
    rw [pls, Bool.and_eq_true] at h
    rw [toPys, List.any_cons, List.any_cons, any_eqv ys x n m h.2 p, eqv_deq y x n m h.1 p]
theorem dIn_get {x y : D} {b : Bool} (e : dIn x y = some b) : ∃ ys, (y = .lst ys ∨ y = .tup ys) ∧ pl x 8 = true ∧ pls ys 8 = true ∧ b = ys.any fun y => deq y x := by
  cases y with
  | lst ys =>
    unfold dIn at e
    dsimp only at e
    split at e
    · rename_i hp
      rw [Bool.and_eq_true] at hp
      cases e
      exact ⟨ys, .inl rfl, hp.1, hp.2, rfl⟩
    · cases e
  | tup ys =>
    unfold dIn at e
    dsimp only at e
    split at e
    · rename_i hp
      rw [Bool.and_eq_true] at hp
      cases e
      exact ⟨ys, .inr rfl, hp.1, hp.2, rfl⟩
    · cases e
  | _ => cases e
theorem r2_in {K : Fg} : R2S K (rInP K) (bv dIn) := fun B H v1 v2 d1 d2 d s a b e Q q => by
  unfold bv at e
  split at e
  · rename_i k hk
    cases e
    obtain ⟨ys, hy, p1, p2, rfl⟩ := dIn_get hk
    have p3 : pl (.lst ys) 9 = true := by rw [pl]; exact p2
    have p4 : pl (.tup ys) 9 = true := by rw [pl]; exact p2
    refine ⟨toPy d1, toPys ys, a.dp s p1, ?_, (pl_plain d1 8 p1).1, (pls_plain ys 8 p2).1, (pl_plain d1 8 p1).2, ?_⟩
    · rcases hy with rfl | rfl
      · have := b.dp s p3
        rw [toPy] at this
        exact .inl this
      · have := b.dp s p4
        rw [toPy] at this
        exact .inr this
    · rw [any_eqv ys d1 8 8 p2 p1]
      exact q _ B H (Fit.refl s) (.bl _)
  · cases e
theorem r2_nin {K : Fg} : R2S K (rNinP K) (bv dNin) := fun B H v1 v2 d1 d2 d s a b e Q q => by
  unfold bv dNin at e
  split at e
  · rename_i k hk
    split at hk
    · rename_i k' hk'
      cases hk
      cases e
      obtain ⟨ys, hy, p1, p2, rfl⟩ := dIn_get hk'
      have p3 : pl (.lst ys) 9 = true := by rw [pl]; exact p2
      have p4 : pl (.tup ys) 9 = true := by rw [pl]; exact p2
      refine ⟨toPy d1, toPys ys, a.dp s p1, ?_, (pl_plain d1 8 p1).1, (pls_plain ys 8 p2).1, (pl_plain d1 8 p1).2, ?_⟩
      · rcases hy with rfl | rfl
        · have := b.dp s p3
          rw [toPy] at this
          exact .inl this
        · have := b.dp s p4
          rw [toPy] at this
          exact .inr this
      · rw [any_eqv ys d1 8 8 p2 p1]
        exact q _ B H (Fit.refl s) (.bl _)
    · cases hk
  · cases e
/-! ## is None -/
def isNon : D → Bool
  | .non => true
  | _ => false
def dIsN (d e : D) : Option Bool := match e with
  | .non => some (isNon d)
  | _ => none
def dIsNn (d e : D) : Option Bool := match e with
  | .non => some (!isNon d)
  | _ => none
theorem dm_non {K : Fg} {B H : Hp} {v : V} {d : D} (h : Dm K B H v d) : decide (v = .non) = isNon d := by
  rcases h with h | ⟨p, vs, ds', rfl, rfl, _⟩
  · cases h <;> simp [isNon]
  · simp [isNon]
theorem r2_isN {K : Fg} : R2S K (fun x y H Q => y = .non ∧ Q (.bl (decide (x = .non))) H) (bv dIsN) := fun B H v1 v2 d1 d2 d s a b e Q q => by
  unfold bv dIsN at e
  cases d2 with
  | non =>
    cases e
    refine ⟨b.non, ?_⟩
    rw [dm_non a]
    exact q _ B H (Fit.refl s) (.bl _)
  | _ => cases e
theorem r2_isNn {K : Fg} : R2S K (fun x y H Q => y = .non ∧ Q (.bl (!decide (x = .non))) H) (bv dIsNn) := fun B H v1 v2 d1 d2 d s a b e Q q => by
  unfold bv dIsNn at e
  cases d2 with
  | non =>
    cases e
    refine ⟨b.non, ?_⟩
    rw [dm_non a]
    exact q _ B H (Fit.refl s) (.bl _)
  | _ => cases e
/-! ## ints -/
def dI2 (C : Int → Int → Bool) (g : Int → Int → Int) (x y : D) : Option D := match x, y with
  | .int i, .int j => if C i j then some (.int (g i j)) else none
  | _, _ => none
def dC2 (g : Int → Int → Bool) (x y : D) : Option Bool := match x, y with
  | .int i, .int j => some (g i j)
  | _, _ => none
theorem r2_I {K : Fg} {Cd : Int → Int → Prop} {C : Int → Int → Bool} {g : Int → Int → Int} (hC : ∀ i j, C i j = true → Cd i j) : R2S K (rI Cd fun i j => .int (g i j)) (dI2 C g) := fun B H v1 v2 d1 d2 d s a b e Q q => by
  unfold dI2 at e
  split at e
  · split at e
    · rename_i hc
      cases e
      exact ⟨_, _, a.int, b.int, hC _ _ hc, q _ B H (Fit.refl s) (.int _)⟩
    · cases e
  · cases e
theorem r2_I0 {K : Fg} {g : Int → Int → Int} : R2S K (rI0 fun i j => .int (g i j)) (dI2 (fun _ _ => true) g) := fun B H v1 v2 d1 d2 d s a b e Q q => by
  unfold dI2 at e
  split at e
  · cases e
    exact ⟨_, _, a.int, b.int, q _ B H (Fit.refl s) (.int _)⟩
  · cases e
theorem r2_C {K : Fg} {g : Int → Int → Bool} : R2S K (rI0 fun i j => .bl (g i j)) (bv (dC2 g)) := fun B H v1 v2 d1 d2 d s a b e Q q => by
  unfold bv dC2 at e
  cases d1 with
  | int i =>
    cases d2 with
    | int j =>
      cases e
      exact ⟨_, _, a.int, b.int, q _ B H (Fit.refl s) (.bl _)⟩
    | _ => cases e
  | _ => cases e
abbrev dSub := dI2 (fun _ _ => true) fun i j => i - j
abbrev dMod := dI2 (fun _ j => decide (0 < j)) fun i j => i % j
abbrev dDiv := dI2 (fun _ j => decide (0 < j) && decide (j < 1073741824)) fun i j => i / j
abbrev dPow := dI2 (fun i j => decide (0 ≤ j) && decide (j ≤ 1000) && decide (i.natAbs < 1000000)) fun i j => i ^ j.toNat
abbrev dLt := dC2 fun i j => decide (i < j)
abbrev dLe := dC2 fun i j => decide (i ≤ j)
abbrev dGt := dC2 fun i j => decide (j < i)
abbrev dGe := dC2 fun i j => decide (j ≤ i)
/-- + of ints, tuples, texts -/
def dAdd (x y : D) : Option D := match x, y with
  | .int i, .int j => some (.int (i + j))
  | .tup xs, .tup ys => if xs.length + ys.length ≤ 100000 then some (.tup (xs ++ ys)) else none
  | .str a, .str b => if a.length + b.length ≤ 100000 then some (.str (a ++ b)) else none
  | _, _ => none
def rAddA (K : Fg) : R2 := fun x y H Q => (rI0 fun i j => .int (i + j)) x y H Q ∨ rCatA K x y H Q ∨ (∃ i j, x = .str i ∧ y = .str j ∧ i.length + j.length ≤ sizeLine ∧ Q (.str (i ++ j)) H)
theorem op_addA {X : Cx} : OpR X (binaryOp .Add) (rAddA X.K) := op_add.or (op_catA.or op_add_str)
theorem r2_add {K : Fg} : R2S K (rAddA K) dAdd := fun B H v1 v2 d1 d2 d s a b e Q q => by
  unfold dAdd at e
  split at e
  · cases e
    exact .inl ⟨_, _, a.int, b.int, q _ B H (Fit.refl s) (.int _)⟩
  · rename_i xs ys
    split at e
    · rename_i hl
      cases e
      obtain ⟨p, us, rfl, hb1, hh1, q1⟩ := a.tup s
      obtain ⟨p2, ws, rfl, hb2, hh2, q2⟩ := b.tup s
      refine .inr (.inl ⟨p, p2, us, ws, rfl, rfl, SqT.of hh1, SqT.of hh2, ?_, fun z => ?_, fun z z2 => ?_, fun z z2 r hr => ?_⟩)
      · rw [q1.length, q2.length]
        exact sz_of hl
      · subst z
        cases q1
        exact q _ B H (Fit.refl s) (.tup hb2 q2)
      · subst z2
        cases q2
        rw [List.append_nil] at q
        exact q _ B H (Fit.refl s) (.tup hb1 q1)
      · exact q _ _ _ (Fit.new s hr) (.tup upd_same ((q1.append q2).mono (same_new (s.free hr))))
    · cases e
  · split at e
    · rename_i hl
      cases e
      exact .inr (.inr ⟨_, _, a.str, b.str, sz_of hl, q _ B H (Fit.refl s) (.str _)⟩)
    · cases e
  · cases e
/-- + of lists -/
def lAdd (x y : D) : Option (List D) := match x, y with
  | .lst xs, .lst ys => if xs.length + ys.length ≤ 100000 then some (xs ++ ys) else none
  | _, _ => none
theorem r2_catL {K : Fg} : R2L K rCat lAdd := fun B H v1 v2 d1 d2 d s a b e Q q => by
  unfold lAdd at e
  split at e
  · split at e
    · rename_i hl
      cases e
      obtain ⟨p, us, rfl, hh1, q1⟩ := a.lst s
      obtain ⟨p2, ws, rfl, hh2, q2⟩ := b.lst s
      refine ⟨p, p2, us, ws, rfl, rfl, hh1, hh2, ?_, fun r hr => ?_⟩
      · rw [q1.length, q2.length]
        exact sz_of hl
      · exact q r _ B _ (Fit.grow s (same_new hr)) hr (s.free hr) upd_same (q1.append q2)
    · cases e
  · cases e
/-- * of ints, one below 2^64 -/
def dMul (x y : D) : Option D := match x, y with
  | .int i, .int j => if decide (i.natAbs < 2 ^ 64) || decide (j.natAbs < 2 ^ 64) then some (.int (i * j)) else none
  | .tup xs, .int k => if !xs.isEmpty && decide (2 ≤ k) && decide (k ≤ 1000) && decide (xs.length ≤ 1000) then some (.tup (List.replicate k.toNat xs).flatten) else none
  | _, _ => none
def rMulA (K : Fg) : R2 := fun x y H Q => (rI CMul fun i j => .int (i * j)) x y H Q ∨ rRepT K x y H Q
theorem op_mulA {X : Cx} : OpR X (binaryOp .Mult) (rMulA X.K) := op_mul.or op_repT
theorem DqAll.rep {K : Fg} {B : Hp} {vs : List V} {ds : List D} (h : DqAll K B vs ds) : ∀ k : Nat, DqAll K B (List.replicate k vs).flatten (List.replicate k ds).flatten
  | 0 => .nil
  | k + 1 => by
    rw [List.replicate_succ, List.replicate_succ, List.flatten_cons, List.flatten_cons]
    exact h.append (DqAll.rep h k)
theorem r2_mul {K : Fg} : R2S K (rMulA K) dMul := fun B H v1 v2 d1 d2 d s a b e Q q => by
  unfold dMul at e
  split at e
  · split at e
    · rename_i hl
      cases e
      rw [Bool.or_eq_true, decide_eq_true_eq, decide_eq_true_eq] at hl
      refine .inl ⟨_, _, a.int, b.int, ?_, q _ B H (Fit.refl s) (.int _)⟩
      rcases hl with hl | hl
      · exact .inl ⟨by omega, by omega⟩
      · exact .inr ⟨by omega, by omega⟩
    · cases e
  · split at e
    · rename_i xs k hl
      cases e
      simp only [Bool.and_eq_true, decide_eq_true_eq] at hl
      obtain ⟨⟨⟨h1, h2⟩, h3⟩, h4⟩ := hl
      obtain ⟨p, us, rfl, hb1, hh1, q1⟩ := a.tup s
      refine .inr ⟨p, k, us, rfl, b.int, SqT.of hh1, ?_, h2, h3, by rw [q1.length]; exact h4, fun r hr => ?_⟩
      · rintro rfl
        cases q1
        simp at h1
      · exact q _ _ _ (Fit.new s hr) (.tup upd_same ((q1.rep _).mono (same_new (s.free hr))))
    · cases e
  · cases e
/-- * of a list -/
def lMul (x y : D) : Option (List D) := match x, y with
  | .lst xs, .int k => if decide (k ≤ 1000) && decide (-1000 ≤ k) && decide (xs.length ≤ 100) then some (List.replicate k.toNat xs).flatten else none
  | _, _ => none
end Rf
set_option Elab.async false
set_option linter.all false
set_option maxRecDepth 100000
set_option maxHeartbeats 4000000
namespace Rf
open PySem L2

/-! ## x[i] -/
theorem ixN_lt {n : Nat} {i : Int} {j : Nat} (h : ixN n i = some j) : j < n := (ixN_seq h).2.1
theorem atI_dq {K : Fg} {B : Hp} {vs : List V} {ds : List D} {i : Int} {d : D} (h : DqAll K B vs ds) (e : atI ds i = some d) : ∃ v, atI vs i = some v ∧ Dq K B v d := by
  unfold atI at e ⊢
  rw [h.length]
  cases z : ixN ds.length i with
  | none => rw [z] at e; cases e
  | some j =>
    rw [z] at e
    exact h.get e
def dIx (x y : D) : Option D := match x, y with
  | .lst ds, .int i => atI ds i
  | .tup ds, .int i => atI ds i
  | .scr ns, .int i => match atI ns i with
    | some n => some (.int n)
    | none => none
  | .str z, .int i => if z.length ≤ 100000 then (match atI z.cps.toList i with
    | some c => some (.str ⟨#[c]⟩)
    | none => none) else none
  | _, _ => none
theorem atI_map {α β : Type} (f : α → β) (xs : List α) (i : Int) : atI (xs.map f) i = (atI xs i).map f := by
  unfold atI
  rw [List.length_map]
  cases ixN xs.length i with
  | none => rfl
  | some j => exact List.getElem?_map ..
theorem r2_ix {K : Fg} : R2S K (rIx K) dIx := fun B H v1 v2 d1 d2 d s a b e Q q => by
  unfold dIx at e
  split at e
  · obtain ⟨p, us, rfl, hh1, q1⟩ := a.lst s
    obtain ⟨v, hv, hd⟩ := atI_dq q1 e
    exact .inl ⟨p, us, _, v, rfl, b.int, SqL.of hh1, hv, q _ B H (Fit.refl s) hd⟩
  · obtain ⟨p, us, rfl, hb1, hh1, q1⟩ := a.tup s
    obtain ⟨v, hv, hd⟩ := atI_dq q1 e
    exact .inr (.inl ⟨p, us, _, v, rfl, b.int, SqT.of hh1, hv, q _ B H (Fit.refl s) hd⟩)
  · rename_i ns i
    cases z : atI ns i with
    | none => rw [z] at e; cases e
    | some n =>
      rw [z] at e
      cases e
      obtain ⟨p, rfl, hs⟩ := a.scr s
      exact .inl ⟨p, _, _, .int n, rfl, b.int, hs, by rw [atI_map, z]; rfl, q _ B H (Fit.refl s) (.int n)⟩
  · rename_i w i
    split at e
    · rename_i hl
      cases z : atI w.cps.toList i with
      | none => rw [z] at e; cases e
      | some c =>
        rw [z] at e
        cases e
        exact .inr (.inr ⟨w, i, c, a.str, b.int, sz_of hl, z, q _ B H (Fit.refl s) (.str _)⟩)
    · cases e
  · cases e

/-! ## slices -/
abbrev AO := En → Option (Option Int)
def SnO (K : Fg) (to : TO) (ao : AO) : Prop := ∀ B0 H0 E σ B H, Rep K B0 H0 E σ B H → ∀ o, ao E = some o → ∀ Q : Option Int → Hp → Prop, (∀ B1 H1, Fit B H B1 H1 → Q o H1) → to σ H Q
structure GO (X : Cx) (e : Option Expr) (to : TO) (ao : AO) : Prop where
  po : PO X e to
  sn : SnO X.K to ao
def aNoP : AO := fun _ => some none
def aPart (f : AE) : AO := fun E => match f E with
  | some (.int i) => some (some i)
  | _ => none
section
variable {X : Cx} {e : Expr} {te : TE} {ae : AE} {lo hi : Option Expr} {tl th : TO} {al ah : AO} {pos p2 : Pos}
theorem go_none : GO X none tNoPart aNoP := ⟨po_none, fun B0 H0 E σ B H rp o e Q q => by cases e; exact q B H (Fit.refl rp.bh)⟩
theorem go_some (h : GM X e te ae) : GO X (some e) (tPart te) (aPart ae) := ⟨po_some h.pe, fun B0 H0 E σ B H rp o z Q q => by
  unfold aPart at z
  cases y : ae E with
  | none => rw [y] at z; cases z
  | some d =>
    rw [y] at z
    cases d with
    | int i =>
      cases z
      exact h.sn B0 H0 E σ B H rp _ y _ fun v B1 H1 f1 h1 => ⟨i, h1.int, q B1 H1 f1⟩
    | _ => cases z⟩
def cutD (ds : List D) (lo hi : Option Int) : List D := (ds.drop (HT.sIx ds.length 0 lo)).take (HT.sIx ds.length ds.length hi - HT.sIx ds.length 0 lo)
theorem DqAll.cut {K : Fg} {B : Hp} {vs : List V} {ds : List D} (h : DqAll K B vs ds) (lo hi : Option Int) : DqAll K B (cutV vs lo hi) (cutD ds lo hi) := by
  unfold cutV cutD
  rw [h.length]
  exact (h.drop _).take _
def aSl (f : D → Option Int → Option Int → Option D) (fa : AE) (fl fh : AO) : AE := fun E => match fa E with
  | some x => match fl E with
    | some l => match fh E with
      | some u => f x l u
      | none => none
    | none => none
  | none => none
def alSl (fa : AE) (fl fh : AO) : AA := fun E => match fa E with
  | some (.lst ds) => match fl E with
    | some l => match fh E with
      | some u => some (cutD ds l u)
      | none => none
    | none => none
  | _ => none
/-- of tuples and texts -/
def dSl (x : D) (l u : Option Int) : Option D := match x with
  | .tup ds => some (.tup (cutD ds l u))
  | .str z => if z.length ≤ 100000 then some (.str (cutS z l u)) else none
  | _ => none
theorem cutV_whole {vs : List V} {lo hi : Option Int} (h : HT.sIx vs.length 0 lo = 0 ∧ HT.sIx vs.length vs.length hi = vs.length) : cutV vs lo hi = vs := by
  unfold cutV
  rw [h.1, h.2, List.drop_zero, Nat.sub_zero, List.take_length]
theorem ge_sl (ha : GM X e te ae) (hl : GO X lo tl al) (hu : GO X hi th ah) : GE X (.Subscript e (.Slice lo hi none p2) pos) (tSl (fun x lo hi H Q => rSlA X.K x lo hi H Q ∨ rSlS x lo hi H Q) te tl th) (aSl dSl ae al ah) :=
  ⟨pe_slice (sl_tupA.or sl_str) ha.pe hl.po hu.po, fun B0 H0 E σ B H rp d z Q q => by
    unfold aSl at z
    cases z1 : ae E with
    | none => rw [z1] at z; cases z
    | some x =>
      rw [z1] at z
      cases z2 : al E with
      | none => rw [z2] at z; cases z
      | some l =>
        rw [z2] at z
        cases z3 : ah E with
        | none => rw [z3] at z; cases z
        | some u =>
          rw [z3] at z
          refine ha.sn B0 H0 E σ B H rp x z1 _ fun v B1 H1 f1 h1 => hl.sn B0 H0 E σ B1 H1 (rp.on f1) l z2 _ fun B2 H2 f2 => hu.sn B0 H0 E σ B2 H2 (rp.on (f1.trans f2)) u z3 _ fun B3 H3 f3 => ?_
          have h3 := (h1.on f2).on f3
          have ff := (f1.trans f2).trans f3
          cases x with
          | tup ds =>
            cases z
            obtain ⟨p, us, rfl, hb1, hh1, q1⟩ := h3.tup f3.bh
            have qc := q1.cut l u
            refine .inl ⟨p, us, rfl, SqT.of hh1, fun hw => ?_, fun hw r hr => ?_⟩
            · rw [cutV_whole hw] at qc
              exact q _ B3 H3 ff (.tup hb1 qc)
            · exact q _ _ _ (ff.trans (Fit.new f3.bh hr)) (.tup upd_same (qc.mono (same_new (f3.bh.free hr))))
          | str w =>
            unfold dSl at z
            dsimp only at z
            split at z
            · rename_i hz
              cases z
              exact .inr ⟨w, h3.str, sz_of hz, q _ B3 H3 ff (.str _)⟩
            · cases z
          | _ => cases z⟩
theorem gl_sl (ha : GM X e te ae) (hl : GO X lo tl al) (hu : GO X hi th ah) : GL X (.Subscript e (.Slice lo hi none p2) pos) (tSl (rSlL X.K) te tl th) (alSl ae al ah) :=
  ⟨pe_slice sl_list ha.pe hl.po hu.po, fun B0 H0 E σ B H rp d z Q q => by
    unfold alSl at z
    cases z1 : ae E with
    | none => rw [z1] at z; cases z
    | some x =>
      rw [z1] at z
      cases x with
      | lst ds =>
        cases z2 : al E with
        | none => rw [z2] at z; cases z
        | some l =>
          rw [z2] at z
          cases z3 : ah E with
          | none => rw [z3] at z; cases z
          | some u =>
            rw [z3] at z
            cases z
            refine ha.sn B0 H0 E σ B H rp _ z1 _ fun v B1 H1 f1 h1 => hl.sn B0 H0 E σ B1 H1 (rp.on f1) l z2 _ fun B2 H2 f2 => hu.sn B0 H0 E σ B2 H2 (rp.on (f1.trans f2)) u z3 _ fun B3 H3 f3 => ?_
            have h3 := (h1.on f2).on f3
            have ff := (f1.trans f2).trans f3
            obtain ⟨p, us, rfl, hh1, q1⟩ := h3.lst f3.bh
            exact ⟨p, us, rfl, SqL.of hh1, fun r hr => q r _ B3 _ (ff.trans (Fit.grow f3.bh (same_new hr))) (ff.free hr) (f3.bh.free hr) upd_same (q1.cut l u)⟩
      | _ => cases z⟩
/-- xs[::-1], a list -/
def alRev (fa : AE) : AA := fun E => match fa E with
  | some (.lst ds) => some ds.reverse
  | _ => none
theorem gl_rev {k : Nat} {p1 p2 p3 : Pos} (ha : GM X e te ae) : GL X (.Subscript e (.Slice none none (some (.UnaryOp .USub (.Constant (.int 1) k p1) p2)) p3) pos) (tRevL X.K te) (alRev ae) :=
  ⟨pe_revL ha.pe, fun B0 H0 E σ B H rp d z Q q => by
    unfold alRev at z
    cases z1 : ae E with
    | none => rw [z1] at z; cases z
    | some x =>
      rw [z1] at z
      cases x with
      | lst ds =>
        cases z
        refine ha.sn B0 H0 E σ B H rp _ z1 _ fun v B1 H1 f1 h1 => ?_
        obtain ⟨p, us, rfl, hh1, q1⟩ := h1.lst f1.bh
        exact ⟨p, us, rfl, SqL.of hh1, fun r hr => q r _ B1 _ (f1.trans (Fit.grow f1.bh (same_new hr))) (f1.free hr) (f1.bh.free hr) upd_same q1.reverse⟩
      | _ => cases z⟩
end

/-! ## calls of built-ins -/
def CS (K : Fg) (r : List V → Hp → VK → Prop) (f : List D → Option D) : Prop := ∀ B H vs ds d, Same B H → DmAll K B H vs ds → f ds = some d → ∀ Q : VK, (∀ v B1 H1, Fit B H B1 H1 → Dq K B1 v d → Q v H1) → r vs H Q
def CSL (K : Fg) (r : List V → Hp → VK → Prop) (f : List D → Option (List D)) : Prop := ∀ B H vs ds d, Same B H → DmAll K B H vs ds → f ds = some d → ∀ Q : VK,
  (∀ p vs B1 H1, Fit B H B1 H1 → H p = none → B1 p = none → H1 p = some (.lst vs) → DqAll K B1 vs d → Q (.ref p) H1) → r vs H Q
def aF (f : List D → Option D) (aa : AA) : AE := fun E => match aa E with
  | some ds => f ds
  | none => none
def alF (f : List D → Option (List D)) (aa : AA) : AA := fun E => match aa E with
  | some ds => f ds
  | none => none
section
variable {X : Cx} {x : Str} {p pos : Pos} {e : Expr} {es : List Expr} {ta : TA} {aa : AA} {id T : String} {r : List V → Hp → VK → Prop}
theorem sn_cb {K : Fg} {f : List D → Option D} (hs : CS K r f) (ha : SnB K ta aa) : SnE K (tCB r ta) (aF f aa) := fun B0 H0 E σ B H rp d z Q q => by
  unfold aF at z
  cases z1 : aa E with
  | none => rw [z1] at z; cases z
  | some ds =>
    rw [z1] at z
    exact ha B0 H0 E σ B H rp ds z1 _ fun vs B1 H1 f1 h1 => hs B1 H1 vs ds d f1.bh h1 z Q fun v B2 H2 f2 h2 => q v B2 H2 (f1.trans f2) h2
theorem sn_cbl {K : Fg} {f : List D → Option (List D)} (hs : CSL K r f) (ha : SnB K ta aa) : SnL K (tCB r ta) (alF f aa) := fun B0 H0 E σ B H rp d z Q q => by
  unfold alF at z
  cases z1 : aa E with
  | none => rw [z1] at z; cases z
  | some ds =>
    rw [z1] at z
    exact ha B0 H0 E σ B H rp ds z1 _ fun vs B1 H1 f1 h1 => hs B1 H1 vs ds d f1.bh h1 z Q fun p vs B2 H2 f2 h2 h3 h4 h5 => q p vs B2 H2 (f1.trans f2) (f1.free h2) h3 h4 h5
theorem ge_cb {f : List D → Option D} (hc : CallR X (.builtin id) r) (hs : CS X.K r f) (hg : Gl X x) (hm : X.mg x = none) (hv : bootBuiltins x = some (.builtin id)) (ha : GB X (e :: es) ta aa) (hn : x ≠ "__name__" := by decide) (hdb : (x == ("__debug__" : Str)) = false := by decide)
    (he : starEach (e :: es) X.env = (false, eval e X.env) :: starEach es X.env := by rfl) (hpl : (backTo pos (starEach es X.env)).any (·.1) = false := by rfl) : GE X (.Call (.Name x p) (e :: es) [] pos) (tCB r ta) (aF f aa) :=
  ⟨pe_callB hc hg hm hv ha.pa hn hdb he hpl, sn_cb hs ha.sn⟩
theorem gl_cb {f : List D → Option (List D)} (hc : CallR X (.builtin id) r) (hs : CSL X.K r f) (hg : Gl X x) (hm : X.mg x = none) (hv : bootBuiltins x = some (.builtin id)) (ha : GB X (e :: es) ta aa) (hn : x ≠ "__name__" := by decide) (hdb : (x == ("__debug__" : Str)) = false := by decide)
    (he : starEach (e :: es) X.env = (false, eval e X.env) :: starEach es X.env := by rfl) (hpl : (backTo pos (starEach es X.env)).any (·.1) = false := by rfl) : GL X (.Call (.Name x p) (e :: es) [] pos) (tCB r ta) (alF f aa) :=
  ⟨pe_callB hc hg hm hv ha.pa hn hdb he hpl, sn_cbl hs ha.sn⟩
theorem ge_ct {f : List D → Option D} (hc : CallR X (.type T) r) (hs : CS X.K r f) (hg : Gl X x) (hm : X.mg x = none) (hv : bootBuiltins x = some (.type T)) (ha : GB X (e :: es) ta aa) (hn : x ≠ "__name__" := by decide) (hdb : (x == ("__debug__" : Str)) = false := by decide)
    (he : starEach (e :: es) X.env = (false, eval e X.env) :: starEach es X.env := by rfl) (hpl : (backTo pos (starEach es X.env)).any (·.1) = false := by rfl) : GE X (.Call (.Name x p) (e :: es) [] pos) (tCB r ta) (aF f aa) :=
  ⟨pe_callTy hc hg hm hv ha.pa hn hdb he hpl, sn_cb hs ha.sn⟩
theorem gl_ct {f : List D → Option (List D)} (hc : CallR X (.type T) r) (hs : CSL X.K r f) (hg : Gl X x) (hm : X.mg x = none) (hv : bootBuiltins x = some (.type T)) (ha : GB X (e :: es) ta aa) (hn : x ≠ "__name__" := by decide) (hdb : (x == ("__debug__" : Str)) = false := by decide)
    (he : starEach (e :: es) X.env = (false, eval e X.env) :: starEach es X.env := by rfl) (hpl : (backTo pos (starEach es X.env)).any (·.1) = false := by rfl) : GL X (.Call (.Name x p) (e :: es) [] pos) (tCB r ta) (alF f aa) :=
  ⟨pe_callTy hc hg hm hv ha.pa hn hdb he hpl, sn_cbl hs ha.sn⟩
end
theorem dm1 {K : Fg} {B H : Hp} {vs : List V} {d : D} (h : DmAll K B H vs [d]) : ∃ v, vs = [v] ∧ Dm K B H v d := by
  match vs, h with
  | [v], h => exact ⟨v, rfl, h.1⟩
  | [], h => exact h.elim
  | _ :: _ :: _, h => exact h.2.elim
theorem dm2 {K : Fg} {B H : Hp} {vs : List V} {d e : D} (h : DmAll K B H vs [d, e]) : ∃ v u, vs = [v, u] ∧ Dm K B H v d ∧ Dm K B H u e := by
  match vs, h with
  | [v, u], h => exact ⟨v, u, rfl, h.1, h.2.1⟩
  | [], h => exact h.elim
  | [_], h => exact h.2.elim
  | _ :: _ :: _ :: _, h => exact h.2.2.elim
def dLen : List D → Option D
  | [.lst ds] => some (.int ds.length)
  | [.tup ds] => some (.int ds.length)
  | [.scr ns] => some (.int ns.length)
  | [.str z] => if z.length ≤ 100000 then some (.int z.length) else none
  | _ => none
theorem cs_len {K : Fg} : CS K (fun xs H Q => ∃ x n, xs = [x] ∧ LenV K x H n ∧ Q (.int n) H) dLen := fun B H vs ds d s h e Q q => by
  unfold dLen at e
  split at e
  · cases e
    obtain ⟨v, rfl, h1⟩ := dm1 h
    obtain ⟨p, us, rfl, hh1, q1⟩ := h1.lst s
    refine ⟨_, us.length, rfl, .inl ⟨us, SqL.of hh1, rfl⟩, ?_⟩
    rw [q1.length]
    exact q _ B H (Fit.refl s) (.int _)
  · cases e
    obtain ⟨v, rfl, h1⟩ := dm1 h
    obtain ⟨p, us, rfl, hb1, hh1, q1⟩ := h1.tup s
    refine ⟨_, us.length, rfl, .inr ⟨us, SqT.of hh1, rfl⟩, ?_⟩
    rw [q1.length]
    exact q _ B H (Fit.refl s) (.int _)
  · rename_i ns
    cases e
    obtain ⟨v, rfl, h1⟩ := dm1 h
    obtain ⟨a, rfl, hs⟩ := h1.scr s
    exact ⟨_, ns.length, rfl, .inl ⟨_, hs, by rw [List.length_map]⟩, q _ B H (Fit.refl s) (.int _)⟩
  · split at e
    · rename_i z hz
      cases e
      obtain ⟨v, rfl, h1⟩ := dm1 h
      rw [h1.str]
      exact ⟨_, _, rfl, ⟨sz_of hz, rfl⟩, q _ B H (Fit.refl s) (.int _)⟩
    · cases e
  · cases e
/-- the ints of a list -/
def intsOf : List D → Option (List Int)
  | [] => some []
  | .int i :: ds => match intsOf ds with
    | some ns => some (i :: ns)
    | none => none
  | _ :: _ => none
theorem intsOf_eq : ∀ {ds : List D} {ns : List Int}, intsOf ds = some ns → ds = ns.map D.int
  | [], ns, e => by cases e; rfl
  | d :: ds, ns, e => by
    cases d with
    | int i =>
      unfold intsOf at e
      cases z : intsOf ds with
      | none => rw [z] at e; cases e
      | some ms =>
        rw [z] at e
        cases e
        rw [intsOf_eq z]
        rfl
    | _ => cases e
theorem intsOf_map : ∀ ns : List Int, intsOf (ns.map D.int) = some ns
  | [] => rfl
  | n :: ns => by rw [List.map_cons, intsOf, intsOf_map ns]
def dSum : List D → Option D
  | [.lst ds] => match intsOf ds with
    | some ns => some (.int ns.sum)
    | none => none
  | _ => none
theorem cs_sum {K : Fg} : CS K (rSum K) dSum := fun B H vs ds d s h e Q q => by
  unfold dSum at e
  split at e
  · rename_i ds
    cases z : intsOf ds with
    | none => rw [z] at e; cases e
    | some ns =>
      rw [z] at e
      cases e
      obtain ⟨v, rfl, h1⟩ := dm1 h
      obtain ⟨p, us, rfl, hh1, q1⟩ := h1.lst s
      rw [intsOf_eq z] at q1
      rw [q1.ints] at hh1
      exact ⟨p, ns, rfl, SqL.of hh1, q _ B H (Fit.refl s) (.int _)⟩
  · cases e
/-- int of a bool, an int -/
def dInt : List D → Option D
  | [.int i] => some (.int i)
  | [.bl b] => some (.int (if b then 1 else 0))
  | _ => none
theorem cs_int {K : Fg} : CS K (fun xs H Q => (∃ i, xs = [.int i] ∧ Q (.int i) H) ∨ ∃ k, xs = [.bl k] ∧ Q (.int (if k then 1 else 0)) H) dInt := fun B H vs ds d s h e Q q => by
  unfold dInt at e
  split at e
  · cases e
    obtain ⟨v, rfl, h1⟩ := dm1 h
    rw [h1.int]
    exact .inl ⟨_, rfl, q _ B H (Fit.refl s) (.int _)⟩
  · cases e
    obtain ⟨v, rfl, h1⟩ := dm1 h
    rw [h1.bl]
    exact .inr ⟨_, rfl, q _ B H (Fit.refl s) (.int _)⟩
  · cases e
def dMin2 : List D → Option D
  | [.int i, .int j] => some (.int (if j < i then j else i))
  | _ => none
theorem cs_min2 {K : Fg} : CS K (fun xs H Q => ∃ i j, xs = [.int i, .int j] ∧ Q (.int (if j < i then j else i)) H) dMin2 := fun B H vs ds d s h e Q q => by
  unfold dMin2 at e
  split at e
  · cases e
    obtain ⟨v, u, rfl, h1, h2⟩ := dm2 h
    rw [h1.int, h2.int]
    exact ⟨_, _, rfl, q _ B H (Fit.refl s) (.int _)⟩
  · cases e
def dMax2 : List D → Option D
  | [.int i, .int j] => some (.int (if j > i then j else i))
  | _ => none
theorem cs_max2 {K : Fg} : CS K (fun xs H Q => ∃ i j, xs = [.int i, .int j] ∧ Q (.int (if j > i then j else i)) H) dMax2 := fun B H vs ds d s h e Q q => by
  unfold dMax2 at e
  split at e
  · cases e
    obtain ⟨v, u, rfl, h1, h2⟩ := dm2 h
    rw [h1.int, h2.int]
    exact ⟨_, _, rfl, q _ B H (Fit.refl s) (.int _)⟩
  · cases e
/-- list(..), tuple(..) of a list, a tuple -/
def lList : List D → Option (List D)
  | [.lst ds] => some ds
  | [.tup ds] => some ds
  | _ => none
theorem cs_list {K : Fg} : CSL K (fun xs H Q => ∃ p ys, xs = [.ref p] ∧ (SqL K H p ys ∨ SqT K H p ys) ∧ ∀ l, H l = none → Q (.ref l) (upd H l (.lst ys))) lList := fun B H vs ds d s h e Q q => by
  unfold lList at e
  split at e
  · cases e
    obtain ⟨v, rfl, h1⟩ := dm1 h
    obtain ⟨p, us, rfl, hh1, q1⟩ := h1.lst s
    exact ⟨p, us, rfl, .inl (SqL.of hh1), fun r hr => q r _ B _ (Fit.grow s (same_new hr)) hr (s.free hr) upd_same q1⟩
  · cases e
    obtain ⟨v, rfl, h1⟩ := dm1 h
    obtain ⟨p, us, rfl, hb1, hh1, q1⟩ := h1.tup s
    exact ⟨p, us, rfl, .inr (SqT.of hh1), fun r hr => q r _ B _ (Fit.grow s (same_new hr)) hr (s.free hr) upd_same q1⟩
  · cases e
def dTuple : List D → Option D
  | [.lst ds] => some (.tup ds)
  | [.tup ds] => some (.tup ds)
  | _ => none
theorem cs_tuple {K : Fg} : CS K (fun xs H Q => ∃ p ys, xs = [.ref p] ∧ ((SqL K H p ys ∧ ∀ l, H l = none → Q (.ref l) (upd H l (.tup ys))) ∨ (SqT K H p ys ∧ Q (.ref p) H))) dTuple := fun B H vs ds d s h e Q q => by
  unfold dTuple at e
  split at e
  · cases e
    obtain ⟨v, rfl, h1⟩ := dm1 h
    obtain ⟨p, us, rfl, hh1, q1⟩ := h1.lst s
    exact ⟨p, us, rfl, .inl ⟨SqL.of hh1, fun r hr => q _ _ _ (Fit.new s hr) (.tup upd_same (q1.mono (same_new (s.free hr))))⟩⟩
  · cases e
    obtain ⟨v, rfl, h1⟩ := dm1 h
    obtain ⟨p, us, rfl, hb1, hh1, q1⟩ := h1.tup s
    exact ⟨p, us, rfl, .inr ⟨SqT.of hh1, q _ B H (Fit.refl s) (.tup hb1 q1)⟩⟩
  · cases e
/-- sorted, of ints -/
def sortI (ns : List Int) : List Int := ns.mergeSort (fun a b => decide (a ≤ b))
theorem sorted_same : ∀ {l m : List Int}, l.Pairwise (· ≤ ·) → m.Pairwise (· ≤ ·) → l.Perm m → l = m := fun {l m} h1 h2 h3 =>
  List.Perm.eq_of_pairwise (fun a b _ _ h h' => Int.le_antisymm h h') h1 h2 h3
theorem sortI_perm (ns : List Int) : (sortI ns).Perm ns := List.mergeSort_perm ..
theorem sortI_sorted (ns : List Int) : (sortI ns).Pairwise (· ≤ ·) := by
  have h := List.pairwise_mergeSort (le := fun a b : Int => decide (a ≤ b)) (fun a b c h1 h2 => by simp only [decide_eq_true_eq] at h1 h2 ⊢; omega) (fun a b => by simp only [Bool.or_eq_true, decide_eq_true_eq]; omega) ns
  exact h.imp (fun {a b} z => of_decide_eq_true z)
def lSorted : List D → Option (List D)
  | [.lst ds] => match intsOf ds with
    | some ns => some ((sortI ns).map D.int)
    | none => none
  | _ => none
theorem cs_sorted {K : Fg} : CSL K (rSortedI K) lSorted := fun B H vs ds d s h e Q q => by
  unfold lSorted at e
  split at e
  · rename_i ds
    cases z : intsOf ds with
    | none => rw [z] at e; cases e
    | some ns =>
      rw [z] at e
      cases e
      obtain ⟨v, rfl, h1⟩ := dm1 h
      obtain ⟨p, us, rfl, hh1, q1⟩ := h1.lst s
      rw [intsOf_eq z] at q1
      rw [q1.ints] at hh1
      refine ⟨p, ns, rfl, SqL.of hh1, fun ns' r pm so hr => ?_⟩
      have e : ns' = sortI ns := sorted_same so (sortI_sorted ns) (pm.trans (sortI_perm ns).symm)
      subst e
      exact q r _ B _ (Fit.grow s (same_new hr)) hr (s.free hr) upd_same (DqAll.of_ints _)
  · cases e

/-! ## isinstance -/
def isiD (T : String) : D → Option Bool
  | .bl _ => some (T == "bool" || T == "int")
  | .int _ => some (T == "int")
  | .non => some false
  | .str _ => some (T == "str")
  | .lst _ => some (T == "list")
  | .tup _ => some (T == "tuple")
  | _ => none
def aIsi (T : String) (f : AE) : AE := fun E => match f E with
  | some d => match isiD T d with
    | some b => some (.bl b)
    | none => none
  | none => none
def IsiOk (T : String) : Bool := (kitB "bool" T == some (T == "bool" || T == "int")) && (kitB "int" T == some (T == "int")) && (kitB "NoneType" T == some false) && (kitB "str" T == some (T == "str")) && (kitB "list" T == some (T == "list")) && (kitB "tuple" T == some (T == "tuple"))
theorem isi_ty {K : Fg} {B H : Hp} {v : V} {d : D} {T : String} {b : Bool} (ok : IsiOk T = true) (s : Same B H) (h : Dm K B H v d) (e : isiD T d = some b) : ∃ t, TyX K H v t ∧ PySem.W.kitOne K t (.type T) = some b := by
  unfold IsiOk at ok
  simp only [Bool.and_eq_true, beq_iff_eq] at ok
  obtain ⟨⟨⟨⟨⟨o1, o2⟩, o3⟩, o4⟩, o5⟩, o6⟩ := ok
  cases d with
  | non => cases e; rw [h.non]; exact ⟨_, .base .non, kit_ty o3⟩
  | bl c => cases e; rw [h.bl]; exact ⟨_, .base (.bl c), kit_ty o1⟩
  | int i => cases e; rw [h.int]; exact ⟨_, .base (.int i), kit_ty o2⟩
  | str z => cases e; rw [h.str]; exact ⟨_, .base (.str z), kit_ty o4⟩
  | lst ds =>
    cases e
    obtain ⟨p, us, rfl, hh1, q1⟩ := h.lst s
    exact ⟨_, .base (.lst hh1), kit_ty o5⟩
  | tup ds =>
    cases e
    obtain ⟨p, us, rfl, hb1, hh1, q1⟩ := h.tup s
    exact ⟨_, .base (.tup hh1), kit_ty o6⟩
  | scr _ => cases e
  | obj _ => cases e
section
variable {X : Cx} {x : Str} {p p2 pos : Pos} {e : Expr} {te : TE} {ae : AE} {T : String}
theorem ge_isi (ok : IsiOk T = true) (hT : bootBuiltins x = some (.type T)) (hg : Gl X "isinstance") (hm : X.mg "isinstance" = none) (hg2 : Gl X x) (hm2 : X.mg x = none) (ha : GM X e te ae) (hn : x ≠ "__name__" := by decide) (hdb : (x == ("__debug__" : Str)) = false := by decide)
    (hs1 : starEach [e, .Name x p2] X.env = (false, eval e X.env) :: starEach [.Name x p2] X.env := by rfl) (hs2 : starEach [.Name x p2] X.env = (false, eval (.Name x p2) X.env) :: starEach [] X.env := by rfl) (hpl : (backTo pos (starEach [.Name x p2] X.env)).any (·.1) = false := by rfl) :
    GE X (.Call (.Name "isinstance" p) [e, .Name x p2] [] pos) (tCB (rIsi X.K) (tCons te (tCons (tC (.ty T)) tNil))) (aIsi T ae) :=
  ⟨pe_callB call_isi hg hm (by decide +kernel) (pa_cons ha.pe (pa_cons (pe_bltn (v := .ty T) hg2 hm2 hT rfl hn hdb) pa_nil hs2) hs1) (by decide) (by decide) hs1 hpl, fun B0 H0 E σ B H rp d z Q q => by
    unfold aIsi at z
    cases z1 : ae E with
    | none => rw [z1] at z; cases z
    | some y =>
      rw [z1] at z
      dsimp only at z
      cases z2 : isiD T y with
      | none => rw [z2] at z; cases z
      | some b =>
        rw [z2] at z
        cases z
        refine ha.sn B0 H0 E σ B H rp y z1 _ fun v B1 H1 f1 h1 => ?_
        obtain ⟨t, ht, hk⟩ := isi_ty ok f1.bh h1 z2
        exact ⟨v, .ty T, t, .type T, b, rfl, .ty T, ht, hk, q _ B1 H1 f1 (.bl b)⟩⟩
/-! ## list(range(n)), tuple(range(n)) -/
def alRg (f : AE) : AA := fun E => match f E with
  | some (.int n) => if n ≤ 100000 ∧ -100000 ≤ n then some ((List.range n.toNat).map fun i => D.int (i : Nat)) else none
  | _ => none
theorem dq_rg {K : Fg} {B : Hp} (n : Int) : DqAll K B (rgV 0 n) ((List.range n.toNat).map fun i => D.int (i : Nat)) := by
  unfold rgV
  rw [Int.sub_zero]
  induction List.range n.toNat with
  | nil => exact .nil
  | cons a l ih =>
    rw [List.map_cons, List.map_cons, Int.zero_add]
    exact .cons (.int _) ih
theorem sn_rgL {K : Fg} (ha : SnM K te ae) : SnL K (tLstRg (tRg1 te)) (alRg ae) := fun B0 H0 E σ B H rp d z Q q => by
  unfold alRg at z
  cases z1 : ae E with
  | none => rw [z1] at z; cases z
  | some y =>
    rw [z1] at z
    cases y with
    | int n =>
      dsimp only at z
      split at z
      · rename_i hn
        cases z
        refine ha B0 H0 E σ B H rp _ z1 _ fun v B1 H1 f1 h1 => ⟨n, h1.int, ⟨by omega, by omega, by omega, by omega, by omega⟩, fun r hr => ?_⟩
        exact q r _ B1 _ (f1.trans (Fit.grow f1.bh (same_new hr))) (f1.free hr) (f1.bh.free hr) upd_same (dq_rg n)
      · cases z
    | _ => cases z
theorem gl_rg (hc : X.calm = true) (hg : Gl X "list") (hm : X.mg "list" = none) (hg2 : Gl X "range") (hm2 : X.mg "range" = none) (ha : GM X e te ae) (hs : starEach [e] X.env = (false, eval e X.env) :: starEach [] X.env := by rfl)
    (hs2 : starEach [Expr.Call (.Name "range" p2) [e] [] pos] X.env = (false, eval (.Call (.Name "range" p2) [e] [] pos) X.env) :: starEach [] X.env := by rfl) {pos' : Pos} :
    GL X (.Call (.Name "list" p) [.Call (.Name "range" p2) [e] [] pos] [] pos') (tLstRg (tRg1 te)) (alRg ae) := ⟨pe_listRg hc hg hm (prg_1 hg2 hm2 ha.pe hs) hs2, sn_rgL ha.sn⟩
theorem ge_rgT (hc : X.calm = true) (hg : Gl X "tuple") (hm : X.mg "tuple" = none) (hg2 : Gl X "range") (hm2 : X.mg "range" = none) (ha : GM X e te ae) (hs : starEach [e] X.env = (false, eval e X.env) :: starEach [] X.env := by rfl)
    (hs2 : starEach [Expr.Call (.Name "range" p2) [e] [] pos] X.env = (false, eval (.Call (.Name "range" p2) [e] [] pos) X.env) :: starEach [] X.env := by rfl) {pos' : Pos} :
    GE X (.Call (.Name "tuple" p) [.Call (.Name "range" p2) [e] [] pos] [] pos') (tTupRg (tRg1 te)) (aTup (alRg ae)) := ⟨pe_tupRg hc hg hm (prg_1 hg2 hm2 ha.pe hs) hs2, fun B0 H0 E σ B H rp d z Q q => by
  unfold aTup alRg at z
  cases z1 : ae E with
  | none => rw [z1] at z; cases z
  | some y =>
    rw [z1] at z
    cases y with
    | int n =>
      dsimp only at z
      split at z
      · rename_i ds hds
        split at hds
        · rename_i hn
          cases hds
          cases z
          refine ha.sn B0 H0 E σ B H rp _ z1 _ fun v B1 H1 f1 h1 => ⟨n, h1.int, ⟨by omega, by omega, by omega, by omega, by omega⟩, fun r hr => ?_⟩
          exact q _ _ _ (f1.trans (Fit.new f1.bh hr)) (.tup upd_same (dq_rg n))
        · cases hds
      · cases z
    | _ => cases z⟩
end
end Rf
set_option Elab.async false
set_option linter.all false
set_option maxRecDepth 100000
set_option maxHeartbeats 4000000
namespace Rf
open PySem L2

/-! ## targets -/
abbrev AG := D → En → Option En
def SnG (K : Fg) (g : TG) (ag : AG) (sl : List Nat) : Prop := ∀ B0 H0 E σ B H, Rep K B0 H0 E σ B H → ∀ v d E', Dq K B v d → ag d E = some E' → ∀ Q : L2.St → Hp → Prop,
  (∀ σ' B' H', Fit B H B' H' → Rep K B0 H0 E' σ' B' H' → (∀ vs : List Nat, (∀ i ∈ sl, i ∈ vs) → wipe σ' vs = wipe σ vs) → Q σ' H') → g v σ H Q
structure GG (X : Cx) (tg : Expr) (g : TG) (ag : AG) (sl : List Nat) : Prop where
  pg : PG X tg g
  sn : SnG X.K g ag sl
theorem wipe_get {σ : L2.St} {i : Nat} : ∀ {vs : List Nat}, (wipe σ vs)[i]? = if i ∈ vs then (if i < σ.length then some none else none) else σ[i]?
  | [] => by simp [wipe]
  | v :: vs => by
    unfold wipe
    by_cases hv : v = i
    · subst hv
      rw [if_pos (List.mem_cons_self ..)]
      by_cases hl : v < σ.length
      · rw [List.getElem?_set_self (by rw [wipe_length]; exact hl), if_pos hl]
      · rw [List.getElem?_eq_none (by rw [List.length_set, wipe_length]; omega), if_neg hl]
    · rw [List.getElem?_set_ne hv, wipe_get (vs := vs)]
      have : (i ∈ v :: vs) ↔ i ∈ vs := by
        rw [List.mem_cons]
        constructor
        · rintro (h | h)
          · exact absurd h.symm hv
          · exact h
        · exact .inr
      by_cases hm : i ∈ vs
      · rw [if_pos hm, if_pos (this.mpr hm)]
      · rw [if_neg hm, if_neg (fun z => hm (this.mp z))]
theorem wipe_set {σ : L2.St} {i : Nat} {x : Option V} {vs : List Nat} (h : i ∈ vs) : wipe (σ.set i x) vs = wipe σ vs := by
  apply List.ext_getElem?
  intro j
  rw [wipe_get, wipe_get, List.length_set]
  by_cases hj : j ∈ vs
  · rw [if_pos hj, if_pos hj]
  · rw [if_neg hj, if_neg hj, List.getElem?_set_ne]
    rintro rfl
    exact hj h
theorem wipe_wipe {σ : L2.St} {vs : List Nat} : wipe (wipe σ vs) vs = wipe σ vs := by
  apply List.ext_getElem?
  intro j
  rw [wipe_get, wipe_get, wipe_length]
  by_cases hj : j ∈ vs
  · rw [if_pos hj, if_pos hj]
  · rw [if_neg hj, if_neg hj]
def agN (i : Nat) : AG := fun d E => some (E.set i (.im d))
theorem sn_gN {K : Fg} {i : Nat} : SnG K (gName i) (agN i) [i] := fun B0 H0 E σ B H rp v d E' h e Q q => by
  cases e
  exact q _ B H (Fit.refl rp.bh) (rp.setIm h) fun vs hv => wipe_set (hv i (List.mem_singleton.mpr rfl))
section
variable {X : Cx} {pos : Pos}
theorem gg_name {i : Nat} {x : Str} (hN : X.N.Nodup) (hi : X.N[i]? = some x) (hx : Loc X.env.scope x := by first | exact .inl rfl | exact .inr rfl) (hf : X.fn x = true ∨ X.env.scope.names.lookup x = some .local := by first | exact .inl rfl | exact .inr rfl) : GG X (.Name x pos) (gName i) (agN i) [i] := ⟨pg_name hN hi hx hf, sn_gN⟩
/-- several -/
abbrev AGs := List D → En → Option En
def SnGs (K : Fg) (g : TGs) (ag : AGs) (sl : List Nat) : Prop := ∀ B0 H0 E σ B H, Rep K B0 H0 E σ B H → ∀ vs ds E', DqAll K B vs ds → ag ds E = some E' → ∀ Q : L2.St → Hp → Prop,
  (∀ σ' B' H', Fit B H B' H' → Rep K B0 H0 E' σ' B' H' → (∀ vs : List Nat, (∀ i ∈ sl, i ∈ vs) → wipe σ' vs = wipe σ vs) → Q σ' H') → g vs σ H Q
structure GGs (X : Cx) (tg : List Expr) (g : TGs) (ag : AGs) (sl : List Nat) : Prop where
  pg : PGs X tg g
  sn : SnGs X.K g ag sl
def agNil : AGs := fun ds E => match ds with
  | [] => some E
  | _ => none
def agCons (f : AG) (g : AGs) : AGs := fun ds E => match ds with
  | d :: r => match f d E with
    | some E1 => g r E1
    | none => none
  | [] => none
theorem ggs_nil : GGs X [] gNil agNil [] := ⟨pgs_nil, fun B0 H0 E σ B H rp vs ds E' h e Q q => by
  unfold agNil at e
  cases ds with
  | nil =>
    cases e
    cases h
    exact ⟨rfl, q σ B H (Fit.refl rp.bh) rp fun _ _ => rfl⟩
  | cons _ _ => cases e⟩
theorem ggs_cons {e : Expr} {es : List Expr} {t : TG} {u : TGs} {f : AG} {g : AGs} {sl sl' : List Nat} (h1 : GG X e t f sl) (h2 : GGs X es u g sl')
    (hs : (assignEach (e :: es) X.env).map (·.2) = assign e X.env :: (assignEach es X.env).map (·.2) := by rfl) : GGs X (e :: es) (gCons t u) (agCons f g) (sl ++ sl') := ⟨pgs_cons h1.pg h2.pg hs, fun B0 H0 E σ B H rp vs ds E' h e Q q => by
  unfold agCons at e
  cases h with
  | nil => cases e
  | cons hv ht =>
    rename_i v vs d ds
    dsimp only at e
    cases z : f d E with
    | none => rw [z] at e; cases e
    | some E1 =>
      rw [z] at e
      refine ⟨v, vs, rfl, h1.sn B0 H0 E σ B H rp v d E1 hv z _ fun σ1 B1 H1 f1 rp1 w1 => ?_⟩
      exact h2.sn B0 H0 E1 σ1 B1 H1 rp1 vs ds E' (ht.mono f1.bb) e Q fun σ2 B2 H2 f2 rp2 w2 => q σ2 B2 H2 (f1.trans f2) rp2 fun vs hvs => (w2 vs fun i hi => hvs i (List.mem_append_right _ hi)).trans (w1 vs fun i hi => hvs i (List.mem_append_left _ hi))⟩
def agT (n : Nat) (g : AGs) : AG := fun d E => match d with
  | .tup ds => if ds.length = n then g ds E else none
  | _ => none
theorem gg_tup {es : List Expr} {k n : Nat} {t : TGs} {g : AGs} {sl : List Nat} (hc : X.calm = true) (h : GGs X es t g sl) (hn : (assignEach es X.env).length = n := by rfl) (hst : (assignEach es X.env).findIdx? (·.1) = none := by rfl) :
    GG X (.Tuple es k pos) (gTup X.K n t) (agT n g) sl := ⟨pg_tup hc h.pg hn hst, fun B0 H0 E σ B H rp v d E' hv e Q q => by
  unfold agT at e
  cases d with
  | tup ds =>
    dsimp only at e
    split at e
    · rename_i hl
      cases hv with
      | tup ha hd => exact ⟨_, _, rfl, SqT.of (rp.bh _ _ ha), hd.length.trans hl, h.sn B0 H0 E σ B H rp _ ds E' hd e Q q⟩
    · cases e
  | _ => cases e⟩
end

/-! ## what is walked -/
structure Wk (K : Fg) (B1 : Hp) (J : It) (ds : List D) (G : Hp → Prop) (Y : Nat → Hp → V → Hp → Prop) : Prop where
  w : Walk J ds.length G Y
  g : ∀ H', Same B1 H' → G H'
  y : ∀ i B' H' x H'' d, Same B1 B' → Same B' H' → ds[i]? = some d → Y i H' x H'' → ∃ B'', Fit B' H' B'' H'' ∧ Dq K B'' x d
def SnI (K : Fg) (wi : TI) (ai : AA) : Prop := ∀ B0 H0 E σ B H, Rep K B0 H0 E σ B H → ∀ ds, ai E = some ds → ∀ R : It → Hp → Prop, (∀ J G Y B1 H1, Fit B H B1 H1 → Wk K B1 J ds G Y → R J H1) → wi σ H R
structure GI (X : Cx) (tg iter : Expr) (wi : TI) (ai : AA) : Prop where
  pi : PI X tg iter wi
  sn : SnI X.K wi ai
  ln : ∀ E ds, ai E = some ds → ds.length ≤ 100000
def aiL (f : AE) : AA := fun E => match f E with
  | some (.lst ds) => if ds.length ≤ 100000 then some ds else none
  | _ => none
def aiT (f : AE) : AA := fun E => match f E with
  | some (.tup ds) => if ds.length ≤ 100000 then some ds else none
  | _ => none
theorem aiL_ln {f : AE} (E : En) (ds : List D) (z : aiL f E = some ds) : ds.length ≤ 100000 := by
  unfold aiL at z
  split at z
  · split at z
    · cases z; assumption
    · cases z
  · cases z
theorem aiT_ln {f : AE} (E : En) (ds : List D) (z : aiT f E = some ds) : ds.length ≤ 100000 := by
  unfold aiT at z
  split at z
  · split at z
    · cases z; assumption
    · cases z
  · cases z
theorem wk_at {K : Fg} {B1 : Hp} {vs : List V} {ds : List D} (h : DqAll K B1 vs ds) : ∀ i B' H' x H'' d, Same B1 B' → Same B' H' → ds[i]? = some d → YAt vs i H' x H'' → ∃ B'', Fit B' H' B'' H'' ∧ Dq K B'' x d := fun i B' H' x H'' d s s' e y => by
  obtain ⟨rfl, e2⟩ := y
  obtain ⟨v, e3, q⟩ := h.get e
  rw [e2] at e3
  cases e3
  exact ⟨B', Fit.refl s', q.mono s⟩
section
variable {X : Cx} {tg e : Expr} {te : TE} {ae : AE} {pos p : Pos}
theorem gi_list (h : GE X e te ae) : GI X tg e (iList X.K te) (aiL ae) := ⟨pi_list h.pe, fun B0 H0 E σ B H rp ds z R q => by
  unfold aiL at z
  cases z1 : ae E with
  | none => rw [z1] at z; cases z
  | some d =>
    rw [z1] at z
    cases d with
    | lst ds' =>
      dsimp only at z
      split at z
      · cases z
        refine h.sn B0 H0 E σ B H rp _ z1 _ fun v B1 H1 f1 h1 => ?_
        cases h1 with
        | lst ha hd =>
          refine ⟨_, rfl, ⟨_, SqL.of (f1.bh _ _ ha)⟩, q _ _ _ B1 H1 f1 ⟨?_, fun H' s => SqL.of (K := X.K) (s _ _ ha), wk_at hd⟩⟩
          rw [← hd.length]
          exact walk_list
      · cases z
    | _ => (cases z), aiL_ln⟩
theorem gi_tup (h : GE X e te ae) : GI X tg e (iTup X.K te) (aiT ae) := ⟨pi_tup h.pe, fun B0 H0 E σ B H rp ds z R q => by
  unfold aiT at z
  cases z1 : ae E with
  | none => rw [z1] at z; cases z
  | some d =>
    rw [z1] at z
    cases d with
    | tup ds' =>
      dsimp only at z
      split at z
      · cases z
        refine h.sn B0 H0 E σ B H rp _ z1 _ fun v B1 H1 f1 h1 => ?_
        cases h1 with
        | tup ha hd =>
          refine ⟨_, rfl, ⟨_, SqT.of (f1.bh _ _ ha)⟩, q _ _ _ B1 H1 f1 ⟨?_, fun H' s => SqT.of (K := X.K) (s _ _ ha), wk_at hd⟩⟩
          rw [← hd.length]
          exact walk_tup
      · cases z
    | _ => (cases z), aiT_ln⟩
/-- range -/
def rg (lo : Int) (n : Nat) : List D := (List.range n).map fun i => D.int (lo + (i : Nat))
theorem rg_get {lo : Int} {n i : Nat} {d : D} (h : (rg lo n)[i]? = some d) : d = .int (lo + (i : Nat)) := by
  unfold rg at h
  rw [List.getElem?_map] at h
  cases z : (List.range n)[i]? with
  | none => rw [z] at h; cases h
  | some j =>
    rw [z] at h
    cases h
    rw [List.getElem?_eq_some_iff] at z
    obtain ⟨_, z⟩ := z
    rw [List.getElem_range] at z
    subst z
    rfl
theorem rg_len (lo : Int) (n : Nat) : (rg lo n).length = n := by unfold rg; rw [List.length_map, List.length_range]
theorem wk_rg {K : Fg} {B1 : Hp} {lo : Int} {n : Nat} : Wk K B1 (Itr lo n) (rg lo n) (fun _ => True) (YFn fun i => .int (lo + i)) :=
  ⟨by rw [rg_len]; exact walk_range, fun _ _ => trivial, fun i B' H' x H'' d s s' e y => by
    obtain ⟨rfl, rfl⟩ := y
    rw [rg_get e]
    exact ⟨B', Fit.refl s', .int _⟩⟩
def aiR1 (f : AA) : AA := fun E => match f E with
  | some [.int n] => if n ≤ 100000 ∧ -100000 ≤ n then some (rg 0 n.toNat) else none
  | _ => none
theorem gb_int1 {K : Fg} {B H : Hp} {vs : List V} {n : Int} (h : DmAll K B H vs [.int n]) : vs = [.int n] := by
  obtain ⟨v, rfl, h1⟩ := dm1 h
  rw [h1.int]
theorem gi_range1 {a : Expr} {ta : TA} {aa : AA} (hg : Gl X "range") (hm : X.mg "range" = none) (ha : GB X [a] ta aa) (hs : starEach [a] X.env = [(false, eval a X.env)] := by rfl) : GI X tg (.Call (.Name "range" p) [a] [] pos) (iRng1 ta) (aiR1 aa) :=
  ⟨pi_range1 hg hm ha.pa hs, fun B0 H0 E σ B H rp ds z R q => by
    unfold aiR1 at z
    split at z
    · rename_i n z1
      split at z
      · cases z
        exact ha.sn B0 H0 E σ B H rp _ z1 _ fun vs B1 H1 f1 h1 => ⟨n, gb_int1 h1, by omega, by omega, q _ _ _ B1 H1 f1 wk_rg⟩
      · cases z
    · (cases z), fun E ds z => by
    unfold aiR1 at z
    split at z
    · split at z
      · cases z
        rw [rg_len]
        omega
      · cases z
    · cases z⟩
def aiR2 (f : AA) : AA := fun E => match f E with
  | some [.int m, .int n] => if n ≤ 10000 ∧ -10000 ≤ n ∧ m ≤ 10000 ∧ -10000 ≤ m then some (rg m (n - m).toNat) else none
  | _ => none
theorem gb_int2 {K : Fg} {B H : Hp} {vs : List V} {m n : Int} (h : DmAll K B H vs [.int m, .int n]) : vs = [.int m, .int n] := by
  obtain ⟨v, u, rfl, h1, h2⟩ := dm2 h
  rw [h1.int, h2.int]
theorem gi_range2 {a b : Expr} {ta : TA} {aa : AA} (hg : Gl X "range") (hm : X.mg "range" = none) (ha : GB X [a, b] ta aa) (hs : starEach [a, b] X.env = [(false, eval a X.env), (false, eval b X.env)] := by rfl) (hs2 : starEach [b] X.env = [(false, eval b X.env)] := by rfl) :
    GI X tg (.Call (.Name "range" p) [a, b] [] pos) (iRng2 ta) (aiR2 aa) :=
  ⟨pi_range2 hg hm ha.pa hs hs2, fun B0 H0 E σ B H rp ds z R q => by
    unfold aiR2 at z
    split at z
    · rename_i m n z1
      split at z
      · cases z
        exact ha.sn B0 H0 E σ B H rp _ z1 _ fun vs B1 H1 f1 h1 => ⟨m, n, gb_int2 h1, ⟨by omega, by omega, by omega, by omega⟩, q _ _ _ B1 H1 f1 wk_rg⟩
      · cases z
    · (cases z), fun E ds z => by
    unfold aiR2 at z
    split at z
    · split at z
      · cases z
        rw [rg_len]
        omega
      · cases z
    · cases z⟩
end

/-! ## comprehensions -/
def compL (ag : AG) (t : AT) (f : AE) (E : En) : List D → Option (List D)
  | [] => some []
  | d :: ds => match ag d E with
    | none => none
    | some E1 => match t E1 with
      | none => none
      | some false => compL ag t f E ds
      | some true => match f E1 with
        | none => none
        | some y => match compL ag t f E ds with
          | none => none
          | some r => some (y :: r)
def aLc (ai : AA) (ag : AG) (t : AT) (f : AE) (vs : List Nat) : AA := fun E => match ai E with
  | some ds => compL ag t f (wipeE E vs) ds
  | none => none
def aYes : AT := fun _ => some true
theorem sn_yes {K : Fg} : SnT K tYes aYes := fun B0 H0 E σ B H rp b e Q q => by cases e; exact q B H (Fit.refl rp.bh)
theorem drop_get {α : Type} : ∀ {l : List α} {i : Nat}, i < l.length → ∃ d, l[i]? = some d ∧ l.drop i = d :: l.drop (i + 1)
  | [], _, h => by simp at h
  | a :: l, 0, _ => ⟨a, rfl, rfl⟩
  | a :: l, i + 1, h => by
    obtain ⟨d, h1, h2⟩ := drop_get (l := l) (i := i) (by simpa using h)
    exact ⟨d, by simpa using h1, by simpa using h2⟩
theorem sn_lc {K : Fg} {wi : TI} {ai : AA} {g : TG} {ag : AG} {tt : TT} {t : AT} {te : TE} {f : AE} {sl vs : List Nat} (hi : SnI K wi ai) (hl : ∀ E ds, ai E = some ds → ds.length ≤ 100000) (hg : SnG K g ag sl) (hsl : ∀ i ∈ sl, i ∈ vs) (ht : SnT K tt t) (he : SnE K te f) : SnL K (tLc wi g tt te vs) (aLc ai ag t f vs) := fun B0 H0 E σ B H rp tot z Q q => by
  unfold aLc at z
  cases z1 : ai E with
  | none => rw [z1] at z; cases z
  | some ds =>
    rw [z1] at z
    dsimp only at z
    refine hi B0 H0 E σ B H rp ds z1 _ fun J G Y B1 H1 f1 wk p hp => ?_
    refine lc_it wk.w (fun i Hc => ∃ B' acc ys rest, Fit B1 H1 B' Hc ∧ B' p = none ∧ Hc p = some (.lst acc) ∧ DqAll K B' acc ys ∧ compL ag t f (wipeE E vs) (ds.drop i) = some rest ∧ ys ++ rest = tot ∧ ys.length ≤ i)
      ⟨B1, [], [], tot, Fit.grow f1.bh (same_new hp), f1.bh.free hp, upd_same, .nil, z, rfl, Nat.le_refl _⟩ (fun i Hc _ ⟨B', _, _, _, fc, _⟩ => wk.g Hc (fc.bb.trans fc.bh)) (fun i x Hc Hd hin ⟨B', acc, ys, rest, fc, hb, hh, hd, hr, ht', hle⟩ hy => ?_) (fun Hc ⟨B', acc, ys, rest, fc, hb, hh, hd, hr, ht', hle⟩ => ?_)
    · obtain ⟨d, e1, e2⟩ := drop_get hin
      obtain ⟨B'', f2, hx⟩ := wk.y i B' Hc x Hd d fc.bb fc.bh e1 hy
      rw [e2, compL] at hr
      have rw1 : Rep K B0 H0 (wipeE E vs) (wipe σ vs) B'' Hd := (((rp.wipeS vs).on f1).on fc).on f2
      cases y1 : ag d (wipeE E vs) with
      | none => rw [y1] at hr; cases hr
      | some E1 =>
        rw [y1] at hr
        dsimp only at hr
        refine hg B0 H0 _ _ B'' Hd rw1 x d E1 hx y1 _ fun σ2 B2 H2 f3 rp2 w2 => ⟨(w2 vs hsl).trans wipe_wipe, ?_⟩
        have back : ∀ {Bx Hx : Hp}, Fit B2 H2 Bx Hx → Bx p = none ∧ Hx p = some (.lst acc) := fun {Bx Hx} fx => by
          have ff := (f2.trans f3).trans fx
          refine ⟨?_, ff.hh _ _ hh⟩
          cases zz : Bx p with
          | none => rfl
          | some o =>
            rcases ff.nw p o zz with y | y
            · rw [hb] at y; cases y
            · rw [hh] at y; cases y
        cases y2 : t E1 with
        | none => rw [y2] at hr; cases hr
        | some b =>
          rw [y2] at hr
          refine ht B0 H0 E1 σ2 B2 H2 rp2 b y2 _ fun B3 H3 f4 => ?_
          cases b with
          | false =>
            obtain ⟨k1, k2⟩ := back f4
            exact iteF ⟨B3, acc, ys, rest, fc.trans ((f2.trans f3).trans f4), k1, k2, hd.mono ((f2.trans f3).trans f4).bb, hr, ht', by omega⟩
          | true =>
            dsimp only at hr
            cases y3 : f E1 with
            | none => rw [y3] at hr; cases hr
            | some y =>
              rw [y3] at hr
              dsimp only at hr
              cases y4 : compL ag t f (wipeE E vs) (List.drop (i + 1) ds) with
              | none => rw [y4] at hr; cases hr
              | some r =>
                rw [y4] at hr
                cases hr
                refine iteT (he B0 H0 E1 σ2 B3 H3 (rp2.on f4) y y3 _ fun v B4 H4 f5 hv => ?_)
                obtain ⟨k1, k2⟩ := back (f4.trans f5)
                have ff := ((f2.trans f3).trans f4).trans f5
                have fa := fc.trans ff
                refine ⟨acc, k2, ?_, B4, acc ++ [v], ys ++ [y], r, ⟨fa.bb, same_upd fa.bh k1, same_upd fa.hh hp, fa.nw⟩, k1, upd_same, (hd.mono ff.bb).append (.cons hv .nil), rfl, by rw [List.append_assoc]; exact ht', by rw [List.length_append]; simp; omega⟩
                have := hl E ds z1
                rw [hd.length]
                exact sz_lt (by omega)
    · have e : ds.drop ds.length = [] := List.drop_length
      rw [e, compL] at hr
      cases hr
      rw [List.append_nil] at ht'
      subst ht'
      exact q p acc B' Hc (f1.trans fc) (f1.free hp) hb hh hd
section
variable {X : Cx} {elt tg iter c : Expr} {scope : Scope} {own : List (Str × Nat)} {pos : Pos} {wi : TI} {ai : AA} {g : TG} {ag : AG} {sl : List Nat} {tt : TT} {t : AT} {te : TE} {f : AE}
theorem gl_lc0 (hc : X.calm = true) (hN : X.N.Nodup) (hi : GI X tg iter wi ai) (ok : BlkOk X.N X.env.scope scope own) (hsl : ∀ i ∈ sl, i ∈ own.map (·.2))
    (hg : ∀ (s : Shared) (H : Hp) (C : Addr) (cl : List (Str × Addr)) (fp : List Addr), GG (X.blk s H scope (compEnvC scope cl C X.env) fp) tg g ag sl)
    (he : ∀ (s : Shared) (H : Hp) (C : Addr) (cl : List (Str × Addr)) (fp : List Addr), GE (X.blk s H scope (compEnvC scope cl C X.env) fp) elt te f) (hs : ∀ x, foldedSetIterable iter X.env x = pure x := by intro _; rfl) :
    GL X (.ListComp elt [⟨tg, iter, [], 0⟩] scope pos) (tLc wi g tYes te (own.map (·.2))) (aLc ai ag aYes f (own.map (·.2))) :=
  ⟨pe_lc hc hN hi.pi ok (fun s H C cl fp => (hg s H C cl fp).pg) (fun _ _ _ _ _ => pts_nil) (fun s H C cl fp => (he s H C cl fp).pe) hs,
    sn_lc hi.sn hi.ln (hg X.s_0 (fun _ => none) (0 : Nat) [] []).sn hsl sn_yes (he X.s_0 (fun _ => none) (0 : Nat) [] []).sn⟩
theorem gl_lc1 (hc : X.calm = true) (hN : X.N.Nodup) (hi : GI X tg iter wi ai) (ok : BlkOk X.N X.env.scope scope own) (hsl : ∀ i ∈ sl, i ∈ own.map (·.2))
    (hg : ∀ (s : Shared) (H : Hp) (C : Addr) (cl : List (Str × Addr)) (fp : List Addr), GG (X.blk s H scope (compEnvC scope cl C X.env) fp) tg g ag sl)
    (ht : ∀ (s : Shared) (H : Hp) (C : Addr) (cl : List (Str × Addr)) (fp : List Addr), GT (X.blk s H scope (compEnvC scope cl C X.env) fp) c tt t)
    (he : ∀ (s : Shared) (H : Hp) (C : Addr) (cl : List (Str × Addr)) (fp : List Addr), GE (X.blk s H scope (compEnvC scope cl C X.env) fp) elt te f) (hs : ∀ x, foldedSetIterable iter X.env x = pure x := by intro _; rfl) :
    GL X (.ListComp elt [⟨tg, iter, [c], 0⟩] scope pos) (tLc wi g tt te (own.map (·.2))) (aLc ai ag t f (own.map (·.2))) :=
  ⟨pe_lc hc hN hi.pi ok (fun s H C cl fp => (hg s H C cl fp).pg) (fun s H C cl fp => pts_one (ht s H C cl fp).pt) (fun s H C cl fp => (he s H C cl fp).pe) hs,
    sn_lc hi.sn hi.ln (hg X.s_0 (fun _ => none) (0 : Nat) [] []).sn hsl (ht X.s_0 (fun _ => none) (0 : Nat) [] []).sn (he X.s_0 (fun _ => none) (0 : Nat) [] []).sn⟩
end

/-! ## statements -/
inductive Xc where
  | own (x : Str) | line (d : D)
inductive Out where
  | nx (E : En) | rt (d : D) | bk (E : En) | ct (E : En) | er (c : Xc) (E : En) | rw (d : D) (E : En)
abbrev AS := En → Option Out
def Xis (K : Fg) (mg : Str → Option Value) : Xc → Value → Option Addr → Hp → Prop
  | .own x, cls, dd, _ => mg x = some cls ∧ dd = none
  | .line d, cls, dd, H => mg "ParseError" = some cls ∧ ∃ p v, dd = some p ∧ H p = some (.xd [(("line" : Str), v)]) ∧ Dq K H v d
def Goes (K : Fg) (mg : Str → Option Value) (B0 H0 : Hp) (De : Ends) (W : WX) : Out → Prop
  | .nx E => ∀ σ B H, Rep K B0 H0 E σ B H → De.nx σ H
  | .rt d => ∀ v B H, Fit B0 H0 B H → Dq K B v d → De.rt v H
  | .bk E => ∀ σ B H, Rep K B0 H0 E σ B H → De.bk σ H
  | .ct E => ∀ σ B H, Rep K B0 H0 E σ B H → De.ct σ H
  | .er c E => ∀ cls dd σ B H, Xis K mg c cls dd B → Rep K B0 H0 E σ B H → W cls dd σ H
  | .rw d E => ∀ v σ B H, Rep K B0 H0 E σ B H → Dq K B v d → De.rt v H
def SnS (K : Fg) (mg : Str → Option Value) (W : WX) (ts : TS) (as : AS) : Prop := ∀ B0 H0 E σ B H, Rep K B0 H0 E σ B H → ∀ o, as E = some o → ∀ De : Ends, Goes K mg B0 H0 De W o → ts De σ H
structure GS (X : Cx) (W : WX) (st : Stmt) (ts : TS) (as : AS) : Prop where
  ps : PS X st ts
  sn : SnS X.K X.mg W ts as
structure GSs (X : Cx) (W : WX) (st : List Stmt) (ts : TS) (as : AS) : Prop where
  ps : PSs X st ts
  sn : SnS X.K X.mg W ts as
def aSkip : AS := fun E => some (.nx E)
def aNever : AS := fun _ => none
def aSeq (f g : AS) : AS := fun E => match f E with
  | some (.nx E1) => g E1
  | r => r
section
variable {X : Cx} {W : WX} {st : Stmt} {rest a b : List Stmt} {t u : TS} {f g : AS} {e c : Expr} {te : TE} {ae : AE} {tc : TT} {fc : AT} {pos : Pos}
theorem gss_nil : GSs X W [] tNext aSkip := ⟨pss_nil, fun B0 H0 E σ B H rp o e De q => by cases e; exact q σ B H rp⟩
theorem gss_never {sts : List Stmt} : GSs X W sts tNever aNever := ⟨pss_never, fun B0 H0 E σ B H rp o e De q => by cases e⟩
theorem sn_seq {K : Fg} {mg : Str → Option Value} (h1 : SnS K mg W t f) (h2 : SnS K mg W u g) : SnS K mg W (tSeq t u) (aSeq f g) := fun B0 H0 E σ B H rp o e De q => by
  unfold aSeq at e
  cases z : f E with
  | none => rw [z] at e; cases e
  | some o1 =>
    rw [z] at e
    cases o1 with
    | nx E1 => exact h1 B0 H0 E σ B H rp _ z _ fun σ1 B1 H1 rp1 => h2 B0 H0 E1 σ1 B1 H1 rp1 o e De q
    | rt d => cases e; exact h1 B0 H0 E σ B H rp _ z _ q
    | bk E1 => cases e; exact h1 B0 H0 E σ B H rp _ z _ q
    | ct E1 => cases e; exact h1 B0 H0 E σ B H rp _ z _ q
    | er c E1 => cases e; exact h1 B0 H0 E σ B H rp _ z _ q
    | rw d E1 => cases e; exact h1 B0 H0 E σ B H rp _ z _ q
theorem gss_cons (h1 : GS X W st t f) (h2 : GSs X W rest u g) : GSs X W (st :: rest) (tSeq t u) (aSeq f g) := ⟨pss_cons h1.ps h2.ps, sn_seq h1.sn h2.sn⟩
theorem gss_one (h1 : GS X W st t f) : GSs X W [st] t f := ⟨pss_one h1.ps, h1.sn⟩
def aIfS (c : AT) (f g : AS) : AS := fun E => match c E with
  | some true => f E
  | some false => g E
  | none => none
theorem gs_if (hc : GT X c tc fc) (ha : GSs X W a t f) (hb : GSs X W b u g) : GS X W (.If c a b pos) (tIfS tc t u) (aIfS fc f g) := ⟨ps_if hc.pt ha.ps hb.ps, fun B0 H0 E σ B H rp o e De q => by
  unfold aIfS at e
  cases z : fc E with
  | none => rw [z] at e; cases e
  | some k =>
    rw [z] at e
    refine hc.sn B0 H0 E σ B H rp k z _ fun B1 H1 f1 => ?_
    cases k with
    | true => exact iteT (ha.sn B0 H0 E σ B1 H1 (rp.on f1) o e De q)
    | false => exact iteF (hb.sn B0 H0 E σ B1 H1 (rp.on f1) o e De q)⟩
def aRet (f : AE) : AS := fun E => match f E with
  | some d => some (.rt d)
  | none => none
theorem gs_ret (h : GE X e te ae) : GS X W (.Return (some e) pos) (tRet te) (aRet ae) := ⟨ps_ret h.pe, fun B0 H0 E σ B H rp o z De q => by
  unfold aRet at z
  cases y : ae E with
  | none => rw [y] at z; cases z
  | some d =>
    rw [y] at z
    cases z
    exact h.sn B0 H0 E σ B H rp d y _ fun v B1 H1 f1 h1 => q v B1 H1 (rp.fit.trans f1) h1⟩
/-- target = e -/
def aAsg (f : AE) (g : AG) : AS := fun E => match f E with
  | some d => match g d E with
    | some E1 => some (.nx E1)
    | none => none
  | none => none
theorem sn_asg {K : Fg} {mg : Str → Option Value} {g : TG} {ag : AG} {sl : List Nat} (h : SnE K te ae) (hg : SnG K g ag sl) : SnS K mg W (tAsg te g) (aAsg ae ag) := fun B0 H0 E σ B H rp o z De q => by
  unfold aAsg at z
  cases y : ae E with
  | none => rw [y] at z; cases z
  | some d =>
    rw [y] at z
    dsimp only at z
    cases y2 : ag d E with
    | none => rw [y2] at z; cases z
    | some E1 =>
      rw [y2] at z
      cases z
      exact h B0 H0 E σ B H rp d y _ fun v B1 H1 f1 h1 => hg B0 H0 E σ B1 H1 (rp.on f1) v d E1 h1 y2 _ fun σ2 B2 H2 _ rp2 _ => q σ2 B2 H2 rp2
theorem gs_asg {tg : Expr} {g : TG} {ag : AG} {sl : List Nat} (h : GE X e te ae) (hg : GG X tg g ag sl) (hs : swapsWithSole [tg] e pos.line X.env = pure false := by rfl) (hw : swappedStores [tg] e X.env = pure none := by rfl)
    (h1 : (assignEach [tg] X.env).map (·.2) = [assign tg X.env] := by rfl) : GS X W (.Assign [tg] e pos) (tAsg te g) (aAsg ae ag) := ⟨ps_asg h.pe hg.pg hs hw h1, sn_asg h.sn hg.sn⟩
def aSet (i : Nat) (f : AE) : AS := fun E => match f E with
  | some d => some (.nx (E.set i (.im d)))
  | none => none
theorem sn_set {K : Fg} {mg : Str → Option Value} {i : Nat} (h : SnE K te ae) : SnS K mg W (tAsg te (gName i)) (aSet i ae) := fun B0 H0 E σ B H rp o z De q => by
  unfold aSet at z
  cases y : ae E with
  | none => rw [y] at z; cases z
  | some d =>
    rw [y] at z
    cases z
    exact h B0 H0 E σ B H rp d y _ fun v B1 H1 f1 h1 => q _ B1 H1 ((rp.on f1).setIm h1)
theorem gs_set {i : Nat} {x : Str} {pos' : Pos} (hN : X.N.Nodup) (hi : X.N[i]? = some x) (h : GE X e te ae) (hx : Loc X.env.scope x := by first | exact .inl rfl | exact .inr rfl) (hs : swapsWith e (some (.Name x pos')) pos.line X.env = pure false := by rfl) (hf : X.fn x = true ∨ X.env.scope.names.lookup x = some .local := by first | exact .inl rfl | exact .inr rfl) :
    GS X W (.Assign [.Name x pos'] e pos) (tAsg te (gName i)) (aSet i ae) := ⟨ps_set hN hi hx h.pe hs hf, sn_set h.sn⟩
/-- name = a new list, to be changed later -/
def aSetM (i : Nat) (f : AA) : AS := fun E => match f E with
  | some ds => some (.nx (E.set i (.mu ds)))
  | none => none
theorem sn_setM {K : Fg} {mg : Str → Option Value} {i : Nat} {al : AA} (h : SnL K te al) : SnS K mg W (tAsg te (gName i)) (aSetM i al) := fun B0 H0 E σ B H rp o z De q => by
  unfold aSetM at z
  cases y : al E with
  | none => rw [y] at z; cases z
  | some ds =>
    rw [y] at z
    cases z
    refine h B0 H0 E σ B H rp ds y _ fun p vs B1 H1 f1 hp hb hh hd => ?_
    have ne : ∀ (ad : Nat → List Addr), RepA K B0 H0 E σ B H ad → ∀ j, p ∉ ad j := fun ad r j => r.newAt hp j
    obtain ⟨ad, r⟩ := rp
    have r1 : RepA K B0 H0 E σ B1 H1 ad := by
      have st : ∀ i a, a ∈ ad i → H1 a = H a := fun i a ha => by
        obtain ⟨_, _, h3⟩ := r.ow i a ha
        cases z : H a with
        | none => exact absurd z h3
        | some o => exact f1.hh a o z
      refine ⟨r.fit.trans f1, r.len, fun i a ha => ?_, fun i s e => (r.sl i s e).imp f1.bb (st i), r.dj⟩
      obtain ⟨h1, h2, h3⟩ := r.ow i a ha
      refine ⟨h1, ?_, by rw [st i a ha]; exact h3⟩
      cases z : B1 a with
      | none => rfl
      | some o =>
        rcases f1.nw a o z with y | y
        · rw [h2] at y; cases y
        · exact absurd y h3
    exact q _ B1 H1 (r1.setMu (r.fit.hh.free hp) hb hh hd fun j _ => ne ad r j)
theorem gs_setM {i : Nat} {x : Str} {pos' : Pos} {al : AA} (hN : X.N.Nodup) (hi : X.N[i]? = some x) (h : GL X e te al) (hx : Loc X.env.scope x := by first | exact .inl rfl | exact .inr rfl) (hs : swapsWith e (some (.Name x pos')) pos.line X.env = pure false := by rfl) (hf : X.fn x = true ∨ X.env.scope.names.lookup x = some .local := by first | exact .inl rfl | exact .inr rfl) :
    GS X W (.Assign [.Name x pos'] e pos) (tAsg te (gName i)) (aSetM i al) := ⟨ps_set hN hi hx h.pe hs hf, sn_setM h.sn⟩
/-- an expression's value dropped -/
def aDrop (f : AE) : AS := fun E => match f E with
  | some _ => some (.nx E)
  | none => none
theorem gs_expr (h : GE X e te ae) (hs : swapsWith e none pos.line X.env = pure false := by rfl) : GS X W (.Expr e pos) (tDrop te) (aDrop ae) := ⟨ps_expr h.pe hs, fun B0 H0 E σ B H rp o z De q => by
  unfold aDrop at z
  cases y : ae E with
  | none => rw [y] at z; cases z
  | some d =>
    rw [y] at z
    cases z
    exact h.sn B0 H0 E σ B H rp d y _ fun v B1 H1 f1 h1 => q σ B1 H1 (rp.on f1)⟩
/-- ahead of a statement: slots forgotten, a list made data -/
def aWipe (l : List Nat) (f : AS) : AS := fun E => f (wipeE E l)
theorem GS.wipe (h : GS X W st t f) (l : List Nat) : GS X W st t (aWipe l f) := ⟨h.ps, fun B0 H0 E σ B H rp o z De q => h.sn B0 H0 _ σ B H (rp.wipes l) o z De q⟩
theorem GSs.wipe (h : GSs X W rest t f) (l : List Nat) : GSs X W rest t (aWipe l f) := ⟨h.ps, fun B0 H0 E σ B H rp o z De q => h.sn B0 H0 _ σ B H (rp.wipes l) o z De q⟩
def aFrz (i : Nat) (f : AS) : AS := fun E => match E[i]? with
  | some (.mu ds) => f (E.set i (.im (.lst ds)))
  | _ => none
theorem sn_frz {K : Fg} {mg : Str → Option Value} {i : Nat} (h : SnS K mg W t f) : SnS K mg W t (aFrz i f) := fun B0 H0 E σ B H rp o z De q => by
  unfold aFrz at z
  cases y : E[i]? with
  | none => rw [y] at z; cases z
  | some s =>
    rw [y] at z
    cases s with
    | mu ds =>
      obtain ⟨B', rp'⟩ := rp.freeze y
      exact h B0 H0 _ σ B' H rp' o z De q
    | _ => cases z
theorem GS.frz (h : GS X W st t f) (i : Nat) : GS X W st t (aFrz i f) := ⟨h.ps, sn_frz h.sn⟩
theorem GSs.frz (h : GSs X W rest t f) (i : Nat) : GSs X W rest t (aFrz i f) := ⟨h.ps, sn_frz h.sn⟩

/-! ## for -/
def forL (g : AG) (b : AS) (l : List Nat) : List D → En → Option Out
  | [], E => some (.nx E)
  | d :: ds, E => match g d E with
    | none => none
    | some E1 => match b E1 with
      | some (.nx E2) => forL g b l ds (wipeE E2 l)
      | some (.ct E2) => forL g b l ds (wipeE E2 l)
      | some (.bk E2) => some (.nx (wipeE E2 l))
      | r => r
def aFor (ai : AA) (g : AG) (b : AS) (l : List Nat) : AS := fun E => match ai E with
  | some ds => forL g b l ds (wipeE E l)
  | none => none
theorem sn_for {K : Fg} {mg : Str → Option Value} {wi : TI} {ai : AA} {g : TG} {ag : AG} {sl l : List Nat} {tb : TS} {ab : AS} (hi : SnI K wi ai) (hg : SnG K g ag sl) (hb : SnS K mg W tb ab) : SnS K mg W (tFor wi g tb) (aFor ai ag ab l) := fun B0 H0 E σ B H rp o z De q => by
  unfold aFor at z
  cases z1 : ai E with
  | none => rw [z1] at z; cases z
  | some ds =>
    rw [z1] at z
    dsimp only at z
    refine hi B0 H0 E σ B H rp ds z1 _ fun J G Y B1 H1 f1 wk => ?_
    refine for_it wk.w (fun i σc Hc => (∃ Ec B', Same B1 B' ∧ Rep K B0 H0 Ec σc B' Hc ∧ forL ag ab l (ds.drop i) Ec = some o)) ⟨wipeE E l, B1, Same.refl _, (rp.on f1).wipes l, z⟩ (fun i σc Hc _ ⟨Ec, B', sb, rc, _⟩ => wk.g Hc (sb.trans rc.bh)) (fun i x σc Hc Hd hin ⟨Ec, B', sb, rc, hr⟩ hy => ?_) (fun σc Hc ⟨Ec, B', sb, rc, hr⟩ => ?_)
    · obtain ⟨d, e1, e2⟩ := drop_get hin
      obtain ⟨B'', f2, hx⟩ := wk.y i B' Hc x Hd d sb rc.bh e1 hy
      rw [e2, forL] at hr
      cases y1 : ag d Ec with
      | none => rw [y1] at hr; cases hr
      | some E1 =>
        rw [y1] at hr
        dsimp only at hr
        refine hg B0 H0 _ _ B'' Hd (rc.on f2) x d E1 hx y1 _ fun σ2 B2 H2 f3 rp2 _ => ?_
        cases y2 : ab E1 with
        | none => rw [y2] at hr; cases hr
        | some o1 =>
          rw [y2] at hr
          have sb2 : Same B1 B2 := (sb.trans f2.bb).trans f3.bb
          -- the body's end stands over B2's data
          have key : ∀ De', Goes K mg B2 H0 De' W o1 → tb De' σ2 H2 := fun De' hq => by
            refine hb B2 H0 E1 σ2 B2 H2 ?_ o1 y2 De' hq
            obtain ⟨ad, r⟩ := rp2
            exact ⟨ad, ⟨Same.refl _, r.fit.bh, r.fit.hh, fun a o e => .inl e⟩, r.len, r.ow, r.sl, r.dj⟩
          have up : ∀ {Ex : En} {σx : L2.St} {Bx Hx : Hp}, Rep K B2 H0 Ex σx Bx Hx → Same B1 Bx ∧ Rep K B0 H0 Ex σx Bx Hx := fun {Ex σx Bx Hx} r => by
            have rf := r.fit
            refine ⟨sb2.trans rf.bb, ?_⟩
            obtain ⟨ad, r⟩ := r
            refine ⟨ad, ⟨rp2.fit.bb.trans rf.bb, rf.bh, rf.hh, fun a o e => ?_⟩, r.len, r.ow, r.sl, r.dj⟩
            rcases rf.nw a o e with y | y
            · exact rp2.fit.nw a o y
            · exact .inr y
          have upf : ∀ {Bx Hx : Hp}, Fit B2 H0 Bx Hx → Fit B0 H0 Bx Hx := fun {Bx Hx} rf => ⟨rp2.fit.bb.trans rf.bb, rf.bh, rf.hh, fun a o e => by
            rcases rf.nw a o e with y | y
            · exact rp2.fit.nw a o y
            · exact .inr y⟩
          refine key _ ?_
          cases o1 with
          | nx E2 =>
            intro σ3 B3 H3 r3
            obtain ⟨s3, r3⟩ := up r3
            exact ⟨wipeE E2 l, B3, s3, r3.wipes l, hr⟩
          | ct E2 =>
            intro σ3 B3 H3 r3
            obtain ⟨s3, r3⟩ := up r3
            exact ⟨wipeE E2 l, B3, s3, r3.wipes l, hr⟩
          | bk E2 =>
            cases hr
            intro σ3 B3 H3 r3
            obtain ⟨s3, r3⟩ := up r3
            exact q σ3 B3 H3 (r3.wipes l)
          | rt d =>
            cases hr
            intro v B3 H3 f3 hd
            exact q v B3 H3 (upf f3) hd
          | er c E2 =>
            cases hr
            intro cls dd σ3 B3 H3 hx3 r3
            obtain ⟨s3, r3⟩ := up r3
            exact q cls dd σ3 B3 H3 hx3 r3
          | rw d E2 =>
            cases hr
            intro v σ3 B3 H3 r3 hd
            obtain ⟨s3, r3⟩ := up r3
            exact q v σ3 B3 H3 r3 hd
    · rw [List.drop_length, forL] at hr
      cases hr
      exact q σc B' Hc rc
theorem gs_for {tg iter : Expr} {body : List Stmt} {wi : TI} {ai : AA} {g' : TG} {ag : AG} {sl : List Nat} {tb : TS} {ab : AS} (l : List Nat) (hp : PassesOwn (model X.prog X.w) X.A X.env X.xe) (hc : X.calm = true) (hi : GI X tg iter wi ai) (hg : GG X tg g' ag sl) (hb : GSs X W body tb ab)
    (hs : ∀ x, foldedSetIterable iter X.env x = pure x := by intro _; rfl) : GS X W (.For tg iter body [] pos) (tFor wi g' tb) (aFor ai ag ab l) := ⟨ps_for hp hc hi.pi hg.pg hb.ps hs, sn_for hi.sn hg.sn hb.sn⟩

/-! ## while: fuel says how many turns at most -/
def whL (t : AT) (b : AS) (l : List Nat) : Nat → En → Option Out
  | 0, _ => none
  | n + 1, E => match t E with
    | none => none
    | some false => some (.nx E)
    | some true => match b E with
      | some (.nx E2) => whL t b l n (wipeE E2 l)
      | some (.ct E2) => whL t b l n (wipeE E2 l)
      | some (.bk E2) => some (.nx (wipeE E2 l))
      | r => r
theorem sn_wh {K : Fg} {mg : Str → Option Value} {tt : TT} {t : AT} {tb : TS} {ab : AS} {l : List Nat} {n : Nat} (ht : SnT K tt t) (hb : SnS K mg W tb ab) : SnS K mg W (tWhile tt tb) (fun E => whL t ab l n (wipeE E l)) := fun B0 H0 E σ B H rp o z De q => by
  refine ⟨fun m σc Hc => ∃ Ec B', Rep K B0 H0 Ec σc B' Hc ∧ whL t ab l m Ec = some o, ⟨n, wipeE E l, B, rp.wipes l, z⟩, fun m σc Hc ⟨Ec, B', rc, hr⟩ => ?_⟩
  cases m with
  | zero => cases hr
  | succ m =>
    rw [whL] at hr
    cases y1 : t Ec with
    | none => rw [y1] at hr; cases hr
    | some k =>
      rw [y1] at hr
      refine ht B0 H0 Ec σc B' Hc rc k y1 _ fun B1 H1 f1 => ?_
      cases k with
      | false =>
        cases hr
        exact iteF (q σc B1 H1 (rc.on f1))
      | true =>
        dsimp only at hr
        refine iteT ⟨fun σ' H' => ∃ Ec B', Rep K B0 H0 Ec σ' B' H' ∧ whL t ab l m Ec = some o, fun σ' H' hw => ⟨m, Nat.lt_succ_self _, hw⟩, ?_⟩
        cases y2 : ab Ec with
        | none => rw [y2] at hr; cases hr
        | some o1 =>
          rw [y2] at hr
          refine hb B0 H0 Ec σc B1 H1 (rc.on f1) o1 y2 _ ?_
          cases o1 with
          | nx E2 => exact fun σ3 B3 H3 r3 => ⟨wipeE E2 l, B3, r3.wipes l, hr⟩
          | ct E2 => exact fun σ3 B3 H3 r3 => ⟨wipeE E2 l, B3, r3.wipes l, hr⟩
          | bk E2 => cases hr; exact fun σ3 B3 H3 r3 => q σ3 B3 H3 (r3.wipes l)
          | rt d => cases hr; exact q
          | er c E2 => cases hr; exact q
          | rw d E2 => cases hr; exact q
theorem gs_wh {body : List Stmt} {tb : TS} {ab : AS} (n : Nat) (l : List Nat) (hp : PassesOwn (model X.prog X.w) X.A X.env X.xe) (hc : GT X c tc fc) (hb : GSs X W body tb ab) : GS X W (.While c body [] pos) (tWhile tc tb) (fun E => whL fc ab l n (wipeE E l)) := ⟨ps_while hp hc.pt hb.ps, sn_wh hc.sn hb.sn⟩
end
end Rf
set_option Elab.async false
set_option linter.all false
set_option maxRecDepth 100000
set_option maxHeartbeats 4000000
namespace Rf
open PySem L2

/-! ## what a def promises -/
inductive Res where
  | ok (d : D) | er (c : Xc)
abbrev Fn := List D → Option Res
def Rt (K : Fg) (mg : Str → Option Value) (B H : Hp) (Q : VK) (E : XK) : Option Res → Prop
  | none => False
  | some (.ok d) => ∀ v B' H', Fit B H B' H' → Dq K B' v d → Q v H'
  | some (.er c) => ∀ cls dd B' H', Xis K mg c cls dd B' → Fit B H B' H' → E cls dd H'
def spF (K : Fg) (mg : Str → Option Value) (n : Nat) (F : Fn) : Sp := fun vs H Q E => vs.length = n ∧ ∃ ds B, Same B H ∧ DqAll K B vs ds ∧ Rt K mg B H Q E (F ds)
def ofOut : Option Out → Option Res
  | some (.rt d) => some (.ok d)
  | some (.nx _) => some (.ok .non)
  | some (.er c _) => some (.er c)
  | _ => none
def en0 (n : Nat) (ds : List D) : En := ds.map Sl.im ++ List.replicate n Sl.no
def runF (n : Nat) (as : AS) : Fn := fun ds => ofOut (as (en0 n ds))
theorem rep_start {K : Fg} {B H : Hp} {N : List Str} {vs : List V} {ds : List D} (s : Same B H) (h : DqAll K B vs ds) : Rep K B H (en0 (N.length - vs.length) ds) (start N vs) B H := by
  refine ⟨fun _ => [], Fit.refl s, ?_, fun i a ha => (nomatch ha), fun i sl e => ?_, fun i j a _ ha => (nomatch ha)⟩
  · unfold en0 L2.start
    rw [List.length_append, List.length_append, List.length_map, List.length_map, List.length_replicate, List.length_replicate, h.length]
  · unfold en0 at e
    by_cases hi : i < ds.length
    · rw [List.getElem?_append_left (by rw [List.length_map]; exact hi), List.getElem?_map, List.getElem?_eq_getElem hi] at e
      cases e
      obtain ⟨v, hv, hq⟩ := h.get (List.getElem?_eq_getElem hi)
      refine ⟨v, ?_, hq⟩
      unfold L2.start
      rw [List.getElem?_append_left (by rw [List.length_map, h.length]; exact hi), List.getElem?_map, hv]
      rfl
    · rw [List.getElem?_append_right (by rw [List.length_map]; omega)] at e
      have : sl = .no := by
        rw [List.getElem?_replicate] at e
        split at e
        · cases e; rfl
        · cases e
      subst this
      trivial
section
variable {P : Program} {w : World} {K : Fg} {mg : Str → Option Value} {base : Heap}
theorem okF {x qual : Str} {st : Stmt} {f : Addr} {fd : FuncData} {N ps : List Str} {k m n : Nat} {as : AS} (F : Fun K x qual st f fd) (S : FnScope N ps (defScope st)) (hm : m = ps.length) (hn : n = N.length - ps.length)
    (hbody : ∀ (cdv : Value) (A : Around) (outer : List Env) (s : Shared) (H : Hp) (E : XK), Room k (A.deeper (PyProof.Rows.envOfC qual (defScope st) s.heap.objs.size f cdv)) →
      ∃ t, GSs (cxOf (L2.CX P w) P w K mg base N qual (defScope st) f cdv A outer s H E) (fun cls d _ H => E cls d H) (defBody st) t as) : FnOk P w K mg base (L2.CX P w) (k + 1) f fd ps (spF K mg m (runF n as)) := by
  subst hm hn
  refine F.okX S (fun vs H Q E h => h.1) (fun cdv A outer s H vs Q E hr h => ?_)
  obtain ⟨t, g⟩ := hbody cdv A outer s H E hr
  refine ⟨t, g.ps, ?_⟩
  obtain ⟨hl, ds, B, sb, hd, hR⟩ := h
  unfold runF at hR
  rw [← hl] at hR
  have r0 : Rep K B H (en0 (N.length - vs.length) ds) (start N vs) B H := rep_start sb hd
  cases z : as (en0 (N.length - vs.length) ds) with
  | none => rw [z] at hR; exact hR.elim
  | some o =>
    rw [z] at hR
    refine g.sn B H _ _ B H r0 o z _ ?_
    cases o with
    | nx E1 => exact fun σ1 B1 H1 r1 => hR .non B1 H1 r1.fit .non
    | rt d => exact fun v B1 H1 f1 h1 => hR v B1 H1 f1 h1
    | bk E1 => exact hR.elim
    | ct E1 => exact hR.elim
    | er c E1 => exact fun cls dd σ1 B1 H1 hx r1 => hR cls dd B1 H1 hx r1.fit
    | rw d E1 => exact hR.elim
/-- the promise in other words -/
theorem fnSpec {f : Addr} {fd : FuncData} {ps : List Str} {k m : Nat} {F G : Fn} (h : FnOk P w K mg base (L2.CX P w) k f fd ps (spF K mg m F)) (hs : ∀ ds r, G ds = some r → F ds = some r) : FnOk P w K mg base (L2.CX P w) k f fd ps (spF K mg m G) :=
  h.imp fun vs H Q E ⟨hl, ds, B, sb, hd, hR⟩ => ⟨hl, ds, B, sb, hd, by
    cases z : G ds with
    | none => rw [z] at hR; exact hR.elim
    | some r => rw [hs ds r z]; rw [z] at hR; exact hR⟩
end

/-! ## calls -/
def aCall (F : Fn) (aa : AA) : AE := fun E => match aa E with
  | some ds => match F ds with
    | some (.ok d) => some d
    | _ => none
  | none => none
abbrev AX := En → Option Res
def aCallX (F : Fn) (aa : AA) : AX := fun E => match aa E with
  | some ds => F ds
  | none => none
def SnX (K : Fg) (mg : Str → Option Value) (W : WX) (te : TE) (ax : AX) : Prop := ∀ B0 H0 E σ B H, Rep K B0 H0 E σ B H → ∀ r, ax E = some r → ∀ Q : VK,
  Rt K mg B H Q (fun cls dd H1 => W cls dd σ H1) (some r) → te σ H Q
structure GX (X : Cx) (W : WX) (e : Expr) (te : TE) (ax : AX) : Prop where
  pe : PE X e te
  sn : SnX X.K X.mg W te ax
section
variable {X : Cx} {W : WX} {k m : Nat} {f : Addr} {fd : FuncData} {ps : List Str} {F : Fn} {x : Str} {p pos : Pos} {e : Expr} {es : List Expr} {ta : TA} {aa : AA}
theorem ge_call (G : FnOk X.prog X.w X.K X.mg X.base (L2.CX X.prog X.w) k f fd ps (spF X.K X.mg m F)) (hr : Room k X.A) (hg : Gl X x) (hm : X.mg x = some (.ref f)) (hk : PySem.W.keepIn X.K (.ref f) = true) (hb : Binds X.K fd ps []) (ha : GA X (e :: es) ta aa) (hn : (e :: es).length = m := by rfl)
    (hdb : (x == ("__debug__" : Str)) = false := by decide) (he : starEach (e :: es) X.env = (false, eval e X.env) :: starEach es X.env := by rfl) (hpl : (backTo pos (starEach es X.env)).any (·.1) = false := by rfl) :
    GE X (.Call (.Name x p) (e :: es) [] pos) (tCall (spF X.K X.mg m F) [] E0 ta) (aCall F aa) := ⟨pe_call G hr hg hm hk hb .nil passL ha.pa hdb he hpl, fun B0 H0 E σ B H rp d z Q q => by
  unfold aCall at z
  cases y : aa E with
  | none => rw [y] at z; cases z
  | some ds =>
    rw [y] at z
    dsimp only at z
    cases y2 : F ds with
    | none => rw [y2] at z; cases z
    | some r =>
      rw [y2] at z
      cases r with
      | er c => cases z
      | ok d' =>
        cases z
        refine ha.sn B0 H0 E σ B H rp ds y _ fun vs B1 H1 f1 h1 => ?_
        rw [List.append_nil]
        refine ⟨by rw [h1.length, ha.ln E ds y, hn], ds, B1, f1.bh, h1, ?_⟩
        rw [y2]
        exact fun v B2 H2 f2 h2 => q v B2 H2 (f1.trans f2) h2⟩
theorem gx_call (tk : Takes X W) (G : FnOk X.prog X.w X.K X.mg X.base (L2.CX X.prog X.w) k f fd ps (spF X.K X.mg m F)) (hr : Room k X.A) (hg : Gl X x) (hm : X.mg x = some (.ref f)) (hk : PySem.W.keepIn X.K (.ref f) = true) (hb : Binds X.K fd ps []) (ha : GA X (e :: es) ta aa) (hn : (e :: es).length = m := by rfl)
    (hdb : (x == ("__debug__" : Str)) = false := by decide) (he : starEach (e :: es) X.env = (false, eval e X.env) :: starEach es X.env := by rfl) (hpl : (backTo pos (starEach es X.env)).any (·.1) = false := by rfl) :
    GX X W (.Call (.Name x p) (e :: es) [] pos) (tCallS (spF X.K X.mg m F) (WE W) ta) (aCallX F aa) := ⟨pe_callS G hr hg hm hk hb (fun σ => passAt tk σ) ha.pa hdb he hpl, fun B0 H0 E σ B H rp r z Q q => by
  unfold aCallX at z
  cases y : aa E with
  | none => rw [y] at z; cases z
  | some ds =>
    rw [y] at z
    dsimp only at z
    refine ha.sn B0 H0 E σ B H rp ds y _ fun vs B1 H1 f1 h1 => ?_
    refine ⟨by rw [h1.length, ha.ln E ds y, hn], ds, B1, f1.bh, h1, ?_⟩
    rw [z]
    cases r with
    | ok d => exact fun v B2 H2 f2 h2 => q v B2 H2 (f1.trans f2) h2
    | er c => exact fun cls dd B2 H2 hx f2 => q cls dd B2 H2 hx (f1.trans f2)⟩
variable {a b c : Expr} {te ta' tb : TE} {ae : AE} {ax bx : AX} {tc : TT} {fc : AT}
def xOf (f : AE) : AX := fun E => match f E with
  | some d => some (.ok d)
  | none => none
theorem gx_of (h : GE X e te ae) : GX X W e te (xOf ae) := ⟨h.pe, fun B0 H0 E σ B H rp r z Q q => by
  unfold xOf at z
  cases y : ae E with
  | none => rw [y] at z; cases z
  | some d =>
    rw [y] at z
    cases z
    exact h.sn B0 H0 E σ B H rp d y Q q⟩
def xIf (t : AT) (f g : AX) : AX := fun E => match t E with
  | some true => f E
  | some false => g E
  | none => none
theorem rt_on {K : Fg} {mg : Str → Option Value} {B H B1 H1 : Hp} {Q : VK} {E : XK} {r : Res} (f : Fit B H B1 H1) (h : Rt K mg B H Q E (some r)) : Rt K mg B1 H1 Q E (some r) := by
  cases r with
  | ok d => exact fun v B2 H2 f2 h2 => h v B2 H2 (f.trans f2) h2
  | er c => exact fun cls dd B2 H2 hx f2 => h cls dd B2 H2 hx (f.trans f2)
theorem gx_if (hc : GT X c tc fc) (ha : GX X W a ta' ax) (hb : GX X W b tb bx) : GX X W (.IfExp c a b pos) (tIf tc ta' tb) (xIf fc ax bx) := ⟨pe_ifExp hc.pt ha.pe hb.pe, fun B0 H0 E σ B H rp r z Q q => by
  unfold xIf at z
  cases y : fc E with
  | none => rw [y] at z; cases z
  | some d =>
    rw [y] at z
    refine hc.sn B0 H0 E σ B H rp d y _ fun B1 H1 f1 => ?_
    cases d with
    | true => exact iteT (ha.sn B0 H0 E σ B1 H1 (rp.on f1) r z Q (rt_on f1 q))
    | false => exact iteF (hb.sn B0 H0 E σ B1 H1 (rp.on f1) r z Q (rt_on f1 q))⟩
/-! statements over what may raise -/
def aRetX (f : AX) : AS := fun E => match f E with
  | some (.ok d) => some (.rt d)
  | some (.er c) => some (.er c E)
  | none => none
theorem gs_retX (h : GX X W e te ax) : GS X W (.Return (some e) pos) (tRet te) (aRetX ax) := ⟨ps_ret h.pe, fun B0 H0 E σ B H rp o z De q => by
  unfold aRetX at z
  cases y : ax E with
  | none => rw [y] at z; cases z
  | some r =>
    rw [y] at z
    refine h.sn B0 H0 E σ B H rp r y _ ?_
    cases r with
    | ok d => cases z; exact fun v B1 H1 f1 h1 => q v B1 H1 (rp.fit.trans f1) h1
    | er c => cases z; exact fun cls dd B1 H1 hx f1 => q cls dd σ B1 H1 hx (rp.on f1)⟩
def aDropX (f : AX) : AS := fun E => match f E with
  | some (.ok _) => some (.nx E)
  | some (.er c) => some (.er c E)
  | none => none
theorem gs_exprX (h : GX X W e te ax) (hs : swapsWith e none pos.line X.env = pure false := by rfl) : GS X W (.Expr e pos) (tDrop te) (aDropX ax) := ⟨ps_expr h.pe hs, fun B0 H0 E σ B H rp o z De q => by
  unfold aDropX at z
  cases y : ax E with
  | none => rw [y] at z; cases z
  | some r =>
    rw [y] at z
    refine h.sn B0 H0 E σ B H rp r y _ ?_
    cases r with
    | ok d => cases z; exact fun v B1 H1 f1 h1 => q σ B1 H1 (rp.on f1)
    | er c => cases z; exact fun cls dd B1 H1 hx f1 => q cls dd σ B1 H1 hx (rp.on f1)⟩
def aSetX (i : Nat) (f : AX) : AS := fun E => match f E with
  | some (.ok d) => some (.nx (E.set i (.im d)))
  | some (.er c) => some (.er c E)
  | none => none
theorem gs_setX {i : Nat} {x : Str} {pos' : Pos} (hN : X.N.Nodup) (hi : X.N[i]? = some x) (h : GX X W e te ax) (hx : Loc X.env.scope x := by first | exact .inl rfl | exact .inr rfl) (hs : swapsWith e (some (.Name x pos')) pos.line X.env = pure false := by rfl) (hf : X.fn x = true ∨ X.env.scope.names.lookup x = some .local := by first | exact .inl rfl | exact .inr rfl) :
    GS X W (.Assign [.Name x pos'] e pos) (tAsg te (gName i)) (aSetX i ax) := ⟨ps_set hN hi hx h.pe hs hf, fun B0 H0 E σ B H rp o z De q => by
  unfold aSetX at z
  cases y : ax E with
  | none => rw [y] at z; cases z
  | some r =>
    rw [y] at z
    refine h.sn B0 H0 E σ B H rp r y _ ?_
    cases r with
    | ok d => cases z; exact fun v B1 H1 f1 h1 => q _ B1 H1 ((rp.on f1).setIm h1)
    | er c => cases z; exact fun cls dd B1 H1 hx f1 => q cls dd σ B1 H1 hx (rp.on f1)⟩
/-- raise X('..') -/
def aRaise (x : Str) : AS := fun E => some (.er (.own x) E)
theorem gs_raise {C : Addr} {bmB : List Value} {Bn newId initId : String} {m : Str} {j : Nat} {p2 pos2 : Pos} (hc : X.calm = true) (tk : Takes X W) (F : ExcBaseFacts Bn newId initId bmB) (q : PySem.W.excIn X.K C bmB newId = true) (gC : X.mg x = some (.ref C)) (kC : PySem.W.keepIn X.K (.ref C) = true) (r : Raises X (.ref C)) (hg : Gl X x)
    (hdb : (x == ("__debug__" : Str)) = false := by decide) : GS X W (.Raise (some (.Call (.Name x p) [.Constant (.str m) j p2] [] pos)) none pos2) (fun _ σ H => W (.ref C) none σ H) (aRaise x) :=
  ⟨ps_raise hc tk (pmk_own F q gC kC r hg hdb), fun B0 H0 E σ B H rp o z De q => by
    cases z
    exact q _ _ σ B H ⟨gC, rfl⟩ rp⟩
/-- a, b = x, y -/
def aPar (i j : Nat) (aa : AA) : AS := fun E => match aa E with
  | some [u, v] => some (.nx ((E.set i (.im u)).set j (.im v)))
  | _ => none
theorem dq2 {K : Fg} {B : Hp} {vs : List V} {d e : D} (h : DqAll K B vs [d, e]) : ∃ v u, vs = [v, u] ∧ Dq K B v d ∧ Dq K B u e := by
  cases h with
  | cons h1 h2 =>
    cases h2 with
    | cons h2 h3 =>
      cases h3
      exact ⟨_, _, rfl, h1, h2⟩
theorem gs_par {i j : Nat} {x y : Str} {px py pt pos : Pos} {kt k2 pt2} (hc : X.calm = true) (hN : X.N.Nodup) (hi : X.N[i]? = some x) (hj : X.N[j]? = some y) (hij : i ≠ j)
    (hx : X.env.scope.names.lookup x = some .local) (hy : X.env.scope.names.lookup y = some .local) (ha : GA X [a, b] ta aa)
    (hw : swappedStores [.Tuple [.Name x px, .Name y py] kt pt] (.Tuple [a, b] k2 pt2) X.env = pure (some [x, y]))
    (hs : swapsWithSole [.Tuple [.Name x px, .Name y py] kt pt] (.Tuple [a, b] k2 pt2) pos.line X.env = pure false := by rfl) :
    GS X W (.Assign [.Tuple [.Name x px, .Name y py] kt pt] (.Tuple [a, b] k2 pt2) pos) (tPar i j ta) (aPar i j aa) := ⟨ps_par hc hN hi hj hij hx hy ha.pa hw hs, fun B0 H0 E σ B H rp o z De q => by
  unfold aPar at z
  split at z
  · rename_i u v y
    cases z
    refine ha.sn B0 H0 E σ B H rp _ y _ fun vs B1 H1 f1 h1 => ?_
    obtain ⟨v1, v2, rfl, q1, q2⟩ := dq2 h1
    exact ⟨v1, v2, rfl, q _ B1 H1 (((rp.on f1).setIm q1).setIm q2)⟩
  · cases z⟩
end

/-! ## lists changed -/
section
variable {X : Cx} {W : WX} {e o : Expr} {te : TE} {ae : AE} {pos apos cpos : Pos} {i : Nat} {x : Str}
theorem ty_list {K : Fg} {H : Hp} {p : Addr} {vs : List V} (h : H p = some (.lst vs)) : tyV K "list" (.ref p) H := .inl ⟨rfl, vs, SqL.of h⟩
def aApp (i : Nat) (f : AE) : AS := fun E => match E[i]? with
  | some (.mu ds) => match f E with
    | some d => if ds.length < 100000 then some (.nx (E.set i (.mu (ds ++ [d])))) else none
    | none => none
  | _ => none
theorem sn_app {K : Fg} {mg : Str → Option Value} (h : SnE K te ae) : SnS K mg W (tDrop (tBM K "list" rAppend (tVar i) (tCons te tNil))) (aApp i ae) := fun B0 H0 E σ B H rp o z De q => by
  unfold aApp at z
  split at z
  · rename_i ds y1
    cases y2 : ae E with
    | none => rw [y2] at z; cases z
    | some d =>
      rw [y2] at z
      dsimp only at z
      split at z
      · rename_i hl
        cases z
        obtain ⟨p, vs, e1, _, _, hh, _⟩ := rp.mu y1
        refine ⟨.ref p, e1, ty_list hh, h B0 H0 E σ B H rp d y2 _ fun v B1 H1 f1 h1 => ?_⟩
        obtain ⟨p', vs', e1', h0', hb', hh', hd'⟩ := (rp.on f1).mu y1
        rw [e1] at e1'
        cases e1'
        exact ⟨p, vs', v, rfl, rfl, hh', by rw [hd'.length]; exact sz_lt hl, q σ B1 _ ((rp.on f1).write y1 e1 (hd'.append (.cons h1 .nil)))⟩
      · cases z
  · cases z
theorem gs_app (hN : X.N[i]? = some x) (h : GE X e te ae) (hv : Vis X.env.scope x := by first | exact Or.inl rfl | exact Or.inr (Or.inl rfl) | exact Or.inr (Or.inr rfl)) (hd : (x == ("__debug__" : Str)) = false := by decide)
    (hcd : (x == ("__classdict__" : Str)) = false := by decide) (hbase : attributeBase (.Name x pos) "append" X.env (eval (.Name x pos) X.env) = eval (.Name x pos) X.env := by rfl)
    (hfew : ((backTo cpos (starEach (e :: []) X.env)).all (fun x => !x.1) && (backToKw cpos (keywordEach [] X.env)).all (fun x => x.1.isSome) && decide ((e :: []).length + ([] : List Keyword).length + (if ([] : List Keyword).isEmpty then 0 else 1) < 30)) = true := by rfl)
    (hline : (apos.endLine == cpos.line) = true := by rfl) (hs : starEach (e :: []) X.env = (false, eval e X.env) :: starEach [] X.env := by rfl) (hplain : (backTo cpos (starEach [] X.env)).any (·.1) = false := by rfl) {pos' : Pos}
    (hsw : swapsWith (.Call (.Attribute (.Name x pos) "append" apos) [e] [] cpos) none pos'.line X.env = pure false := by rfl) :
    GS X W (.Expr (.Call (.Attribute (.Name x pos) "append" apos) [e] [] cpos) pos') (tDrop (tBM X.K "list" rAppend (tVar i) (tCons te tNil))) (aApp i ae) :=
  ⟨ps_expr (pe_bm PySem.F.plainAttrs_list PySem.F.slot_list_append PySem.F.type_list_append mt_append (pe_var hN hv hd hcd) (pa_cons h.pe pa_nil hs) hbase hfew hline hs hplain) hsw, sn_app h.sn⟩
/-- xs.extend(a new list) -/
def aExt (i : Nat) (f : AA) : AS := fun E => match E[i]? with
  | some (.mu ds) => match f E with
    | some es => if ds.length + es.length ≤ 100000 then some (.nx (E.set i (.mu (ds ++ es)))) else none
    | none => none
  | _ => none
theorem sn_ext {K : Fg} {mg : Str → Option Value} {al : AA} (h : SnL K te al) : SnS K mg W (tDrop (tBM K "list" rExtend (tVar i) (tCons te tNil))) (aExt i al) := fun B0 H0 E σ B H rp o z De q => by
  unfold aExt at z
  split at z
  · rename_i ds y1
    cases y2 : al E with
    | none => rw [y2] at z; cases z
    | some es =>
      rw [y2] at z
      dsimp only at z
      split at z
      · rename_i hl
        cases z
        obtain ⟨p, vs, e1, _, _, hh, _⟩ := rp.mu y1
        refine ⟨.ref p, e1, ty_list hh, h B0 H0 E σ B H rp es y2 _ fun r ws B1 H1 f1 hr hb1 hh1 hd1 => ?_⟩
        obtain ⟨p', vs', e1', h0', hb', hh', hd'⟩ := (rp.on f1).mu y1
        rw [e1] at e1'
        cases e1'
        exact ⟨p, r, vs', ws, rfl, rfl, hh', hh1, by rw [hd'.length, hd1.length]; exact sz_of hl, q σ B1 _ ((rp.on f1).write y1 e1 (hd'.append hd1))⟩
      · cases z
  · cases z
theorem gs_ext {al : AA} (hN : X.N[i]? = some x) (h : GL X e te al) (hv : Vis X.env.scope x := by first | exact Or.inl rfl | exact Or.inr (Or.inl rfl) | exact Or.inr (Or.inr rfl)) (hd : (x == ("__debug__" : Str)) = false := by decide)
    (hcd : (x == ("__classdict__" : Str)) = false := by decide) (hbase : attributeBase (.Name x pos) "extend" X.env (eval (.Name x pos) X.env) = eval (.Name x pos) X.env := by rfl)
    (hfew : ((backTo cpos (starEach (e :: []) X.env)).all (fun x => !x.1) && (backToKw cpos (keywordEach [] X.env)).all (fun x => x.1.isSome) && decide ((e :: []).length + ([] : List Keyword).length + (if ([] : List Keyword).isEmpty then 0 else 1) < 30)) = true := by rfl)
    (hline : (apos.endLine == cpos.line) = true := by rfl) (hs : starEach (e :: []) X.env = (false, eval e X.env) :: starEach [] X.env := by rfl) (hplain : (backTo cpos (starEach [] X.env)).any (·.1) = false := by rfl) {pos' : Pos}
    (hsw : swapsWith (.Call (.Attribute (.Name x pos) "extend" apos) [e] [] cpos) none pos'.line X.env = pure false := by rfl) :
    GS X W (.Expr (.Call (.Attribute (.Name x pos) "extend" apos) [e] [] cpos) pos') (tDrop (tBM X.K "list" rExtend (tVar i) (tCons te tNil))) (aExt i al) :=
  ⟨ps_expr (pe_bm PySem.F.plainAttrs_list PySem.F.slot_list_extend PySem.F.type_list_extend mt_extend (pe_var hN hv hd hcd) (pa_cons h.pe pa_nil hs) hbase hfew hline hs hplain) hsw, sn_ext h.sn⟩
/-- xs.append(ys.pop(e)) -/
def aAppPop (i j : Nat) (f : AE) : AS := fun E => match E[i]? with
  | some (.mu ds) => match E[j]? with
    | some (.mu es) => match f E with
      | some (.int n) => if i ≠ j ∧ ds.length < 100000 ∧ 0 ≤ n ∧ n < 100000 then (match es[n.toNat]? with
        | some d => some (.nx ((E.set j (.mu (es.eraseIdx n.toNat))).set i (.mu (ds ++ [d]))))
        | none => none) else none
      | _ => none
    | _ => none
  | _ => none
theorem seqIx {n : Int} {m : Nat} (h0 : 0 ≤ n) (h : n.toNat < m) : seqIndex? n m = some n.toNat := by
  have e : ixN m n = some n.toNat := by
    unfold ixN
    rw [if_pos h0, if_pos (by omega)]
  exact (ixN_seq e).1
theorem sn_appPop {K : Fg} {mg : Str → Option Value} {j : Nat} (h : SnM K te ae) : SnS K mg W (tDrop (tBM K "list" rAppend (tVar i) (tCons (tBM K "list" rPopAt (tVar j) (tCons te tNil)) tNil))) (aAppPop i j ae) := fun B0 H0 E σ B H rp o z De q => by
  unfold aAppPop at z
  split at z
  · rename_i ds y1
    split at z
    · rename_i es y2
      split at z
      · rename_i n y3
        split at z
        · rename_i hc
          obtain ⟨hij, hl, h0, h1⟩ := hc
          cases y4 : es[n.toNat]? with
          | none => rw [y4] at z; cases z
          | some d =>
            rw [y4] at z
            cases z
            obtain ⟨p, vs, e1, _, _, hh, _⟩ := rp.mu y1
            obtain ⟨r, ws, e2, _, _, hh2, _⟩ := rp.mu y2
            refine ⟨.ref p, e1, ty_list hh, .ref r, e2, ty_list hh2, h B0 H0 E σ B H rp _ y3 _ fun v B1 H1 f1 hv => ?_⟩
            obtain ⟨r', ws', e2', h0', hb', hh', hd'⟩ := (rp.on f1).mu y2
            rw [e2] at e2'
            cases e2'
            obtain ⟨u, hu, hq⟩ := hd'.get y4
            have hlt : n.toNat < ws'.length := (List.getElem?_eq_some_iff.mp hu).1
            have rp1 := (rp.on f1).write y2 e2 (hd'.erase n.toNat)
            have y1' : (E.set j (.mu (es.eraseIdx n.toNat)))[i]? = some (.mu ds) := by
              rw [List.getElem?_set_ne (Ne.symm hij)]
              exact y1
            refine ⟨r, ws', n, n.toNat, u, rfl, by rw [hv.int], hh', by omega, by omega, seqIx h0 hlt, hu, ?_⟩
            obtain ⟨p', vs', e1', h0p, hbp, hhp, hdp⟩ := rp1.mu y1'
            rw [e1] at e1'
            cases e1'
            exact ⟨p, vs', u, rfl, rfl, hhp, by rw [hdp.length]; exact sz_lt hl, q σ B1 _ (rp1.write y1' e1 (hdp.append (.cons hq .nil)))⟩
        · cases z
      · cases z
    · cases z
  · cases z
/-- xs[k] = e -/
def aSetIx (i : Nat) (fk f : AE) : AS := fun E => match E[i]? with
  | some (.mu ds) => match f E with
    | some d => match fk E with
      | some (.int n) => if 0 ≤ n ∧ n.toNat < ds.length then some (.nx (E.set i (.mu (ds.set n.toNat d)))) else none
      | _ => none
    | none => none
  | _ => none
theorem sn_setIx {K : Fg} {mg : Str → Option Value} {tk : TE} {fk : AE} (h : SnE K te ae) (hk : SnM K tk fk) : SnS K mg W (tAsg te (gSub (tVar i) tk rSetL)) (aSetIx i fk ae) := fun B0 H0 E σ B H rp o z De q => by
  unfold aSetIx at z
  split at z
  · rename_i ds y1
    cases y2 : ae E with
    | none => rw [y2] at z; cases z
    | some d =>
      rw [y2] at z
      dsimp only at z
      split at z
      · rename_i n y3
        split at z
        · rename_i hc
          cases z
          refine h B0 H0 E σ B H rp d y2 _ fun v B1 H1 f1 h1 => ?_
          obtain ⟨p, vs, e1, _, _, hh, _⟩ := (rp.on f1).mu y1
          refine ⟨.ref p, e1, hk B0 H0 E σ B1 H1 (rp.on f1) _ y3 _ fun u B2 H2 f2 hu => ?_⟩
          have rp2 := (rp.on f1).on f2
          obtain ⟨p', vs', e1', h0', hb', hh', hd'⟩ := rp2.mu y1
          rw [e1] at e1'
          cases e1'
          refine ⟨p, vs', n, n.toNat, rfl, hu.int, hh', ?_, q σ B2 _ (rp2.write y1 e1 (hd'.set (h1.mono f2.bb) n.toNat))⟩
          unfold ixN
          rw [if_pos hc.1, if_pos (by rw [hd'.length]; omega)]
        · cases z
      · cases z
  · cases z
end
end Rf
set_option Elab.async false
set_option linter.all false
set_option maxRecDepth 100000
set_option maxHeartbeats 4000000
namespace Rf
open PySem L2

/-! ## not, by truth -/
def vNotT (f : AE) : AE := fun E => match f E with
  | some d => match tru d with
    | some b => some (.bl (!b))
    | none => none
  | none => none
section
variable {X : Cx} {W : WX} {a e : Expr} {te : TE} {ae : AE} {pos : Pos}
theorem ge_notT (h : GM X a te ae) : GE X (.UnaryOp .Not a pos) (tNotT X.K te) (vNotT ae) := ⟨pe_notT h.pe, fun B0 H0 E σ B H rp d z Q q => by
  unfold vNotT at z
  cases y : ae E with
  | none => rw [y] at z; cases z
  | some x =>
    rw [y] at z
    dsimp only at z
    cases y2 : tru x with
    | none => rw [y2] at z; cases z
    | some b =>
      rw [y2] at z
      cases z
      exact h.sn B0 H0 E σ B H rp x y _ fun v B1 H1 f1 h1 => ⟨b, tru_ok f1.bh h1 y2, q _ B1 H1 f1 (.bl _)⟩⟩

/-! ## comprehensions, as a value and as a name's value -/
variable {elt tg iter c : Expr} {ifs : List Expr} {scope : Scope} {own : List (Str × Nat)} {wi : TI} {ai : AA} {g : TG} {ag : AG} {sl : List Nat} {tt : TT} {t : AT} {f : AE} {tl : TE} {al : AA}
structure LC (X : Cx) (elt tg iter : Expr) (ifs : List Expr) (scope : Scope) (tl : TE) (al : AA) : Prop where
  val : ∀ pos : Pos, PE X (.ListComp elt [⟨tg, iter, ifs, 0⟩] scope pos) tl
  nam : ∀ (i : Nat) (y : Str) (py pos spos : Pos), X.N[i]? = some y → X.env.scope.names.lookup y = some .local → swapsWith (.ListComp elt [⟨tg, iter, ifs, 0⟩] scope pos) (some (.Name y py)) spos.line X.env = pure true →
    PS X (.Assign [.Name y py] (.ListComp elt [⟨tg, iter, ifs, 0⟩] scope pos) spos) (tAsg tl (gName i))
  sn : SnL X.K tl al
theorem lc0 (hc : X.calm = true) (hN : X.N.Nodup) (hi : GI X tg iter wi ai) (ok : BlkOk X.N X.env.scope scope own) (hsl : ∀ i ∈ sl, i ∈ own.map (·.2))
    (hg : ∀ (s : Shared) (H : Hp) (C : Addr) (cl : List (Str × Addr)) (fp : List Addr), GG (X.blk s H scope (compEnvC scope cl C X.env) fp) tg g ag sl)
    (he : ∀ (s : Shared) (H : Hp) (C : Addr) (cl : List (Str × Addr)) (fp : List Addr), GE (X.blk s H scope (compEnvC scope cl C X.env) fp) elt te f) (hs : ∀ x, foldedSetIterable iter X.env x = pure x := by intro _; rfl) :
    LC X elt tg iter [] scope (tLc wi g tYes te (own.map (·.2))) (aLc ai ag aYes f (own.map (·.2))) :=
  ⟨fun pos => pe_lc hc hN hi.pi ok (fun s H C cl fp => (hg s H C cl fp).pg) (fun _ _ _ _ _ => pts_nil) (fun s H C cl fp => (he s H C cl fp).pe) hs,
   fun i y py pos spos h1 h2 h3 => ps_setLc hc hN h1 h2 h3 hi.pi ok (fun s H C cl fp => (hg s H C cl fp).pg) (fun _ _ _ _ _ => pts_nil) (fun s H C cl fp => (he s H C cl fp).pe) hs,
   sn_lc hi.sn hi.ln (hg X.s_0 (fun _ => none) (0 : Nat) [] []).sn hsl sn_yes (he X.s_0 (fun _ => none) (0 : Nat) [] []).sn⟩
theorem lc1 (hc : X.calm = true) (hN : X.N.Nodup) (hi : GI X tg iter wi ai) (ok : BlkOk X.N X.env.scope scope own) (hsl : ∀ i ∈ sl, i ∈ own.map (·.2))
    (hg : ∀ (s : Shared) (H : Hp) (C : Addr) (cl : List (Str × Addr)) (fp : List Addr), GG (X.blk s H scope (compEnvC scope cl C X.env) fp) tg g ag sl)
    (ht : ∀ (s : Shared) (H : Hp) (C : Addr) (cl : List (Str × Addr)) (fp : List Addr), GT (X.blk s H scope (compEnvC scope cl C X.env) fp) c tt t)
    (he : ∀ (s : Shared) (H : Hp) (C : Addr) (cl : List (Str × Addr)) (fp : List Addr), GE (X.blk s H scope (compEnvC scope cl C X.env) fp) elt te f) (hs : ∀ x, foldedSetIterable iter X.env x = pure x := by intro _; rfl) :
    LC X elt tg iter [c] scope (tLc wi g tt te (own.map (·.2))) (aLc ai ag t f (own.map (·.2))) :=
  ⟨fun pos => pe_lc hc hN hi.pi ok (fun s H C cl fp => (hg s H C cl fp).pg) (fun s H C cl fp => pts_one (ht s H C cl fp).pt) (fun s H C cl fp => (he s H C cl fp).pe) hs,
   fun i y py pos spos h1 h2 h3 => ps_setLc hc hN h1 h2 h3 hi.pi ok (fun s H C cl fp => (hg s H C cl fp).pg) (fun s H C cl fp => pts_one (ht s H C cl fp).pt) (fun s H C cl fp => (he s H C cl fp).pe) hs,
   sn_lc hi.sn hi.ln (hg X.s_0 (fun _ => none) (0 : Nat) [] []).sn hsl (ht X.s_0 (fun _ => none) (0 : Nat) [] []).sn (he X.s_0 (fun _ => none) (0 : Nat) [] []).sn⟩
theorem LC.l (h : LC X elt tg iter ifs scope tl al) : GL X (.ListComp elt [⟨tg, iter, ifs, 0⟩] scope pos) tl al := ⟨h.val pos, h.sn⟩
theorem gs_lcE {i : Nat} {y : Str} {py spos : Pos} (hi : X.N[i]? = some y) (h : LC X elt tg iter ifs scope tl al) (hy : X.env.scope.names.lookup y = some .local := by rfl)
    (hsw : swapsWith (.ListComp elt [⟨tg, iter, ifs, 0⟩] scope pos) (some (.Name y py)) spos.line X.env = pure true := by exact sw_true rfl rfl rfl (by decide +kernel)) :
    GS X W (.Assign [.Name y py] (.ListComp elt [⟨tg, iter, ifs, 0⟩] scope pos) spos) (tAsg tl (gName i)) (aSet i (aLst al)) := ⟨h.nam i y py pos spos hi hy hsw, sn_set h.sn.e⟩
theorem gs_lcM {i : Nat} {y : Str} {py spos : Pos} (hi : X.N[i]? = some y) (h : LC X elt tg iter ifs scope tl al) (hy : X.env.scope.names.lookup y = some .local := by rfl)
    (hsw : swapsWith (.ListComp elt [⟨tg, iter, ifs, 0⟩] scope pos) (some (.Name y py)) spos.line X.env = pure true := by exact sw_true rfl rfl rfl (by decide +kernel)) :
    GS X W (.Assign [.Name y py] (.ListComp elt [⟨tg, iter, ifs, 0⟩] scope pos) spos) (tAsg tl (gName i)) (aSetM i al) := ⟨h.nam i y py pos spos hi hy hsw, sn_setM h.sn⟩
end

/-! ## defs by name -/
def DefAt (K : Fg) (mg : Str → Option Value) (x : Str) (st : Stmt) (ps : List Str) : Prop := ∃ f fd, Fun K x x st f fd ∧ mg x = some (.ref f) ∧ Binds K fd ps []
structure Has (P : Program) (w : World) (K : Fg) (mg : Str → Option Value) (base : Heap) (k : Nat) (x : Str) (ps : List Str) (F : Fn) : Prop where
  ex : ∃ f fd, FnOk P w K mg base (L2.CX P w) k f fd ps (spF K mg ps.length F) ∧ mg x = some (.ref f) ∧ PySem.W.keepIn K (.ref f) = true ∧ Binds K fd ps []
section
variable {P : Program} {w : World} {K : Fg} {mg : Str → Option Value} {base : Heap}
theorem has_of {x : Str} {st : Stmt} {N ps : List Str} {k n : Nat} {as : AS} (D : DefAt K mg x st ps) (S : FnScope N ps (defScope st)) (hn : n = N.length - ps.length)
    (hbody : ∀ (f : Addr) (cdv : Value) (A : Around) (outer : List Env) (s : Shared) (H : Hp) (E : XK), Room k (A.deeper (PyProof.Rows.envOfC x (defScope st) s.heap.objs.size f cdv)) →
      ∃ t, GSs (cxOf (L2.CX P w) P w K mg base N x (defScope st) f cdv A outer s H E) (fun cls d _ H => E cls d H) (defBody st) t as) : Has P w K mg base (k + 1) x ps (runF n as) := by
  obtain ⟨f, fd, F, hm, hb⟩ := D
  exact ⟨f, fd, okF F S rfl hn (hbody f), hm, F.kp, hb⟩
theorem Has.spec {k : Nat} {x : Str} {ps : List Str} {F G : Fn} (h : Has P w K mg base k x ps F) (hs : ∀ ds r, G ds = some r → F ds = some r) : Has P w K mg base k x ps G := by
  obtain ⟨f, fd, h1, h2⟩ := h.ex
  exact ⟨f, fd, fnSpec h1 hs, h2⟩
theorem Has.mono {k j : Nat} {x : Str} {ps : List Str} {F : Fn} (h : Has P w K mg base k x ps F) (hj : k ≤ j) : Has P w K mg base j x ps F := by
  obtain ⟨f, fd, h1, h2⟩ := h.ex
  exact ⟨f, fd, h1.mono hj, h2⟩
end
section
variable {X : Cx} {W : WX} {k : Nat} {ps : List Str} {F : Fn} {x : Str} {p pos : Pos} {e : Expr} {es : List Expr} {ta : TA} {aa : AA}
theorem ge_fn (G : Has X.prog X.w X.K X.mg X.base k x ps F) (hr : Room k X.A) (ha : GA X (e :: es) ta aa) (hg : Gl X x := by rfl) (hn : (e :: es).length = ps.length := by rfl)
    (hdb : (x == ("__debug__" : Str)) = false := by decide) (he : starEach (e :: es) X.env = (false, eval e X.env) :: starEach es X.env := by rfl) (hpl : (backTo pos (starEach es X.env)).any (·.1) = false := by rfl) :
    GE X (.Call (.Name x p) (e :: es) [] pos) (tCall (spF X.K X.mg ps.length F) [] E0 ta) (aCall F aa) := by
  obtain ⟨f, fd, h1, h2, h3, h4⟩ := G.ex
  exact ge_call h1 hr hg h2 h3 h4 ha hn hdb he hpl
theorem gx_fn (tk : Takes X W) (G : Has X.prog X.w X.K X.mg X.base k x ps F) (hr : Room k X.A) (ha : GA X (e :: es) ta aa) (hg : Gl X x := by rfl) (hn : (e :: es).length = ps.length := by rfl)
    (hdb : (x == ("__debug__" : Str)) = false := by decide) (he : starEach (e :: es) X.env = (false, eval e X.env) :: starEach es X.env := by rfl) (hpl : (backTo pos (starEach es X.env)).any (·.1) = false := by rfl) :
    GX X W (.Call (.Name x p) (e :: es) [] pos) (tCallS (spF X.K X.mg ps.length F) (WE W) ta) (aCallX F aa) := by
  obtain ⟨f, fd, h1, h2, h3, h4⟩ := G.ex
  exact gx_call tk h1 hr hg h2 h3 h4 ha hn hdb he hpl
end
/-- the chain over ValueError, itself first -/
abbrev veTail : List Value := [.type "ValueError", .type "Exception", .type "BaseException", .type "object"]
/-- an exception class of the program -/
structure ExcAt (K : Fg) (mg : Str → Option Value) (x : Str) (C : Addr) : Prop where
  g : mg x = some (.ref C)
  xi : PySem.W.excIn K C veTail "ValueError.__new__" = true
  kp : PySem.W.keepIn K (.ref C) = true
  sb : PySem.W.subIn K (.ref C) (.type "BaseException") = some true
  ty : PySem.W.typeIn K (.ref C) = some (.type "type")
structure XG (K : Fg) (mg : Str → Option Value) (x : Str) (C : Addr) : Prop where
  g : mg x = some (.ref C)
  ty : PySem.W.typeIn K (.ref C) = some (.type "type")
theorem gs_rs {X : Cx} {W : WX} {x m : Str} {C : Addr} {j : Nat} {p p2 pos pos2 : Pos} (h : ExcAt X.K X.mg x C) (tk : Takes X W) (hc : X.calm = true := by rfl) (hg : Gl X x := by rfl) (hdb : (x == ("__debug__" : Str)) = false := by decide) :
    GS X W (.Raise (some (.Call (.Name x p) [.Constant (.str m) j p2] [] pos)) none pos2) (fun _ σ H => W (.ref C) none σ H) (aRaise x) :=
  gs_raise hc tk PySem.F.excBase_ValueError h.xi h.g h.kp (raises_own h.sb h.ty) hg hdb
/-- the built-ins that stand -/
structure Bi (mg : Str → Option Value) : Prop where
  len : mg "len" = none
  range : mg "range" = none
  list : mg "list" = none
  tuple : mg "tuple" = none
  sorted : mg "sorted" = none
  set : mg "set" = none
  sum : mg "sum" = none
  min : mg "min" = none
  max : mg "max" = none
  int : mg "int" = none
  str : mg "str" = none
  bool : mg "bool" = none
  isinstance : mg "isinstance" = none
  enumerate : mg "enumerate" = none
  zip : mg "zip" = none
  ValueError : mg "ValueError" = none
end Rf
namespace Rf
open PySem L2
section
variable {X : Cx} {W : WX} {a e : Expr} {te : TE} {ae : AE} {pos : Pos}
/-- -e -/
def aNeg (f : AE) : AE := fun E => match f E with
  | some (.int i) => some (.int (-i))
  | _ => none
theorem ge_neg (h : GM X a te ae) : GE X (.UnaryOp .USub a pos) (tUn (rU fun i => .int (-i)) te) (aNeg ae) := ⟨pe_un un_neg h.pe, fun B0 H0 E σ B H rp d z Q q => by
  unfold aNeg at z
  cases y : ae E with
  | none => rw [y] at z; cases z
  | some x =>
    rw [y] at z
    cases x with
    | int i =>
      cases z
      exact h.sn B0 H0 E σ B H rp _ y _ fun v B1 H1 f1 h1 => ⟨i, h1.int, q _ B1 H1 f1 (.int _)⟩
    | _ => cases z⟩
end
end Rf
namespace Rf
open PySem L2
theorem r2_mod {K : Fg} : R2S K (rI (fun _ j => 0 < j) fun i j => .int (i % j)) dMod := r2_I fun i j h => of_decide_eq_true h
theorem r2_div {K : Fg} : R2S K (rI CDiv fun i j => .int (i / j)) dDiv := r2_I fun i j h => by
  rw [Bool.and_eq_true, decide_eq_true_eq, decide_eq_true_eq] at h
  exact h
theorem r2_pow {K : Fg} : R2S K (rI CPow fun i j => .int (i ^ j.toNat)) dPow := r2_I fun i j h => by
  simp only [Bool.and_eq_true, decide_eq_true_eq] at h
  exact ⟨h.1.1, by omega, by omega⟩
theorem r2_repL {K : Fg} : R2L K rRep lMul := fun B H v1 v2 d1 d2 d s a b e Q q => by
  unfold lMul at e
  split at e
  · rename_i xs k
    split at e
    · rename_i hl
      cases e
      simp only [Bool.and_eq_true, decide_eq_true_eq] at hl
      obtain ⟨⟨h1, h2⟩, h3⟩ := hl
      obtain ⟨p, us, rfl, hh1, q1⟩ := a.lst s
      refine ⟨p, k, us, rfl, b.int, hh1, by omega, by omega, ?_, fun r hr => ?_⟩
      · rw [q1.length]
        refine sz_of ?_
        have : xs.length * k.toNat ≤ 100 * 1000 := Nat.mul_le_mul h3 (by omega)
        omega
      · exact q r _ B _ (Fit.grow s (same_new hr)) hr (s.free hr) upd_same (q1.rep _)
    · cases e
  · cases e
end Rf
namespace Rf
open PySem L2
/-! readings in short, as the printed derivations name them -/
abbrev rLenK (K : Fg) : List V → Hp → VK → Prop := fun xs H Q => ∃ x n, xs = [x] ∧ LenV K x H n ∧ Q (.int n) H
abbrev rIntK : List V → Hp → VK → Prop := fun xs H Q => (∃ i, xs = [.int i] ∧ Q (.int i) H) ∨ ∃ k, xs = [.bl k] ∧ Q (.int (if k then 1 else 0)) H
abbrev rMin2K : List V → Hp → VK → Prop := fun xs H Q => ∃ i j, xs = [.int i, .int j] ∧ Q (.int (if j < i then j else i)) H
abbrev rMax2K : List V → Hp → VK → Prop := fun xs H Q => ∃ i j, xs = [.int i, .int j] ∧ Q (.int (if j > i then j else i)) H
abbrev rTupleK (K : Fg) : List V → Hp → VK → Prop := fun xs H Q => ∃ p ys, xs = [.ref p] ∧ ((SqL K H p ys ∧ ∀ l, H l = none → Q (.ref l) (upd H l (.tup ys))) ∨ (SqT K H p ys ∧ Q (.ref p) H))
abbrev rListK (K : Fg) : List V → Hp → VK → Prop := fun xs H Q => ∃ p ys, xs = [.ref p] ∧ (SqL K H p ys ∨ SqT K H p ys) ∧ ∀ l, H l = none → Q (.ref l) (upd H l (.lst ys))
abbrev rIsNk : R2 := fun x y H Q => y = .non ∧ Q (.bl (decide (x = .non))) H
abbrev rIsNnk : R2 := fun x y H Q => y = .non ∧ Q (.bl (!decide (x = .non))) H
end Rf
set_option Elab.async false
set_option linter.all false
set_option maxRecDepth 100000
set_option maxHeartbeats 4000000
namespace Rf
open PySem L2

/-! ## a, b = list, list (two new lists, through a tuple) -/
def aTupM (i j : Nat) (f g : AA) : AS := fun E => match f E with
  | some ds => match g E with
    | some es => if i ≠ j then some (.nx ((E.set i (.mu ds)).set j (.mu es))) else none
    | none => none
  | none => none
theorem RepA.on {K : Fg} {B0 H0 B H B1 H1 : Hp} {E : En} {σ : L2.St} {ad : Nat → List Addr} (r : RepA K B0 H0 E σ B H ad) (f : Fit B H B1 H1) : RepA K B0 H0 E σ B1 H1 ad := by
  have st : ∀ i a, a ∈ ad i → H1 a = H a := fun i a ha => by
    obtain ⟨_, _, h3⟩ := r.ow i a ha
    cases z : H a with
    | none => exact absurd z h3
    | some o => exact f.hh a o z
  refine ⟨r.fit.trans f, r.len, fun i a ha => ?_, fun i s e => (r.sl i s e).imp f.bb (st i), r.dj⟩
  obtain ⟨h1, h2, h3⟩ := r.ow i a ha
  refine ⟨h1, ?_, by rw [st i a ha]; exact h3⟩
  cases z : B1 a with
  | none => rfl
  | some o =>
    rcases f.nw a o z with y | y
    · rw [h2] at y; cases y
    · exact absurd y h3
theorem sn_tupM {K : Fg} {mg : Str → Option Value} {W : WX} {i j : Nat} {te tf : TE} {al am : AA} (h : SnL K te al) (h2 : SnL K tf am) :
    SnS K mg W (tAsg (tTup (tCons te (tCons tf tNil))) (gTup K 2 (gCons (gName i) (gCons (gName j) gNil)))) (aTupM i j al am) := fun B0 H0 E σ B H rp o z De q => by
  unfold aTupM at z
  cases y : al E with
  | none => rw [y] at z; cases z
  | some ds =>
    rw [y] at z
    dsimp only at z
    cases y2 : am E with
    | none => rw [y2] at z; cases z
    | some es =>
      rw [y2] at z
      dsimp only at z
      split at z
      · rename_i hij
        cases z
        refine h B0 H0 E σ B H rp ds y _ fun p vs B1 H1 f1 hp hb hh hd => h2 B0 H0 E σ B1 H1 (rp.on f1) es y2 _ fun r ws B2 H2 f2 hr hb2 hh2 hd2 => ⟨by show 2 ≤ sizeLine; decide, fun t ht => ?_⟩
        obtain ⟨ad, ra⟩ := rp
        have ff := f1.trans f2
        have f3 : Fit B2 H2 B2 (upd H2 t (.tup [.ref p, .ref r])) := Fit.grow f2.bh (same_new ht)
        have r3 := (ra.on ff).on f3
        have pB2 : B2 p = none := by
          cases zz : B2 p with
          | none => rfl
          | some o =>
            rcases f2.nw p o zz with y | y
            · rw [hb] at y; cases y
            · rw [hh] at y; cases y
        have hr0 : H r = none := f1.free hr
        have hpr : p ≠ r := fun e => by rw [e] at hh; rw [hh] at hr; cases hr
        have hp2 : H2 p = some (.lst vs) := f2.hh _ _ hh
        refine ⟨t, [.ref p, .ref r], rfl, SqT.of upd_same, rfl, .ref p, [.ref r], rfl, .ref r, [], rfl, rfl, ?_⟩
        have hp3 : (upd H2 t (.tup [.ref p, .ref r])) p = some (.lst vs) := f3.hh _ _ hp2
        have hr3 : (upd H2 t (.tup [.ref p, .ref r])) r = some (.lst ws) := f3.hh _ _ hh2
        have q1 := r3.put (i := i) (v := some (.ref p)) (s := .mu ds) (l := [p]) (fun hl => ⟨p, vs, rfl, List.getElem?_set_self (by rw [← r3.len]; exact hl), hp3, hd.mono f2.bb⟩)
          (fun a ha => by rw [List.mem_singleton.mp ha]; exact ⟨ra.fit.hh.free hp, pB2, by rw [hp3]; simp⟩) (fun k a _ ha => by rw [List.mem_singleton.mp ha]; exact ra.newAt hp k)
        have q2 := q1.put (i := j) (v := some (.ref r)) (s := .mu es) (l := [r]) (fun hl => ⟨r, ws, rfl, List.getElem?_set_self (by rw [← q1.len]; exact hl), hr3, hd2⟩)
          (fun a ha => by rw [List.mem_singleton.mp ha]; exact ⟨ra.fit.hh.free hr0, hb2, by rw [hr3]; simp⟩) (fun k a _ ha => by
            rw [List.mem_singleton.mp ha]
            by_cases hk : k = i
            · rw [if_pos hk]
              exact fun z => hpr (List.mem_singleton.mp z).symm
            · rw [if_neg hk]
              exact ra.newAt hr0 k)
        exact q _ B2 _ ⟨_, q2⟩
      · cases z
section
variable {X : Cx} {W : WX} {a b e : Expr} {te tf : TE} {al am : AA} {ae : AE} {pos : Pos} {i j : Nat}
theorem gs_tupM {x y : Str} {px py pt pt2 : Pos} {kt k2} (hN : X.N.Nodup) (hi : X.N[i]? = some x) (hj : X.N[j]? = some y) (h : GL X a te al) (h2 : GL X b tf am) (hc : X.calm = true := by rfl)
    (hx : Loc X.env.scope x := by first | exact .inl rfl | exact .inr rfl) (hfx : X.fn x = true ∨ X.env.scope.names.lookup x = some .local := by first | exact .inl rfl | exact .inr rfl)
    (hy : Loc X.env.scope y := by first | exact .inl rfl | exact .inr rfl) (hfy : X.fn y = true ∨ X.env.scope.names.lookup y = some .local := by first | exact .inl rfl | exact .inr rfl)
    (hs1 : starEach [a, b] X.env = (false, eval a X.env) :: starEach [b] X.env := by rfl) (hs2 : starEach [b] X.env = (false, eval b X.env) :: starEach [] X.env := by rfl)
    (ha1 : (assignEach [.Name x px, .Name y py] X.env).map (·.2) = assign (.Name x px) X.env :: (assignEach [.Name y py] X.env).map (·.2) := by rfl) (ha2 : (assignEach [.Name y py] X.env).map (·.2) = assign (.Name y py) X.env :: (assignEach [] X.env).map (·.2) := by rfl)
    (hn : (assignEach [.Name x px, .Name y py] X.env).length = 2 := by rfl) (hst : (assignEach [.Name x px, .Name y py] X.env).findIdx? (·.1) = none := by rfl)
    (hs : swapsWithSole [.Tuple [.Name x px, .Name y py] kt pt] (.Tuple [a, b] k2 pt2) pos.line X.env = pure false := by rfl) (hw : swappedStores [.Tuple [.Name x px, .Name y py] kt pt] (.Tuple [a, b] k2 pt2) X.env = pure none := by rfl)
    (h1 : (assignEach [.Tuple [.Name x px, .Name y py] kt pt] X.env).map (·.2) = [assign (.Tuple [.Name x px, .Name y py] kt pt) X.env] := by rfl) :
    GS X W (.Assign [.Tuple [.Name x px, .Name y py] kt pt] (.Tuple [a, b] k2 pt2) pos) (tAsg (tTup (tCons te (tCons tf tNil))) (gTup X.K 2 (gCons (gName i) (gCons (gName j) gNil)))) (aTupM i j al am) :=
  ⟨ps_asg (pe_tup (pa_cons h.pe (pa_cons h2.pe pa_nil hs2) hs1)) (pg_tup hc (pgs_cons (pg_name hN hi hx hfx) (pgs_cons (pg_name hN hj hy hfy) pgs_nil ha2) ha1) hn hst) hs hw h1, sn_tupM h.sn h2.sn⟩
theorem gs_appPop {x y : Str} {p1 p2 ap1 ap2 cp1 cp2 pos' : Pos} (hN : X.N[i]? = some x) (hN2 : X.N[j]? = some y) (h : GM X e te ae) (hv : Vis X.env.scope x := by first | exact Or.inl rfl | exact Or.inr (Or.inl rfl) | exact Or.inr (Or.inr rfl)) (hv2 : Vis X.env.scope y := by first | exact Or.inl rfl | exact Or.inr (Or.inl rfl) | exact Or.inr (Or.inr rfl))
    (hd : (x == ("__debug__" : Str)) = false := by decide) (hcd : (x == ("__classdict__" : Str)) = false := by decide) (hd2 : (y == ("__debug__" : Str)) = false := by decide) (hcd2 : (y == ("__classdict__" : Str)) = false := by decide)
    (hb1 : attributeBase (.Name x p1) "append" X.env (eval (.Name x p1) X.env) = eval (.Name x p1) X.env := by rfl) (hb2 : attributeBase (.Name y p2) "pop" X.env (eval (.Name y p2) X.env) = eval (.Name y p2) X.env := by rfl)
    (hf1 : ((backTo cp1 (starEach [.Call (.Attribute (.Name y p2) "pop" ap2) [e] [] cp2] X.env)).all (fun x => !x.1) && (backToKw cp1 (keywordEach [] X.env)).all (fun x => x.1.isSome) && decide ([Expr.Call (.Attribute (.Name y p2) "pop" ap2) [e] [] cp2].length + ([] : List Keyword).length + (if ([] : List Keyword).isEmpty then 0 else 1) < 30)) = true := by rfl)
    (hf2 : ((backTo cp2 (starEach [e] X.env)).all (fun x => !x.1) && (backToKw cp2 (keywordEach [] X.env)).all (fun x => x.1.isSome) && decide ([e].length + ([] : List Keyword).length + (if ([] : List Keyword).isEmpty then 0 else 1) < 30)) = true := by rfl)
    (hl1 : (ap1.endLine == cp1.line) = true := by rfl) (hl2 : (ap2.endLine == cp2.line) = true := by rfl)
    (hs1 : starEach [.Call (.Attribute (.Name y p2) "pop" ap2) [e] [] cp2] X.env = (false, eval (.Call (.Attribute (.Name y p2) "pop" ap2) [e] [] cp2) X.env) :: starEach [] X.env := by rfl) (hs2 : starEach [e] X.env = (false, eval e X.env) :: starEach [] X.env := by rfl)
    (hp1 : (backTo cp1 (starEach [] X.env)).any (·.1) = false := by rfl) (hp2 : (backTo cp2 (starEach [] X.env)).any (·.1) = false := by rfl)
    (hsw : swapsWith (.Call (.Attribute (.Name x p1) "append" ap1) [.Call (.Attribute (.Name y p2) "pop" ap2) [e] [] cp2] [] cp1) none pos'.line X.env = pure false := by rfl) :
    GS X W (.Expr (.Call (.Attribute (.Name x p1) "append" ap1) [.Call (.Attribute (.Name y p2) "pop" ap2) [e] [] cp2] [] cp1) pos')
      (tDrop (tBM X.K "list" rAppend (tVar i) (tCons (tBM X.K "list" rPopAt (tVar j) (tCons te tNil)) tNil))) (aAppPop i j ae) :=
  ⟨ps_expr (pe_bm PySem.F.plainAttrs_list PySem.F.slot_list_append PySem.F.type_list_append mt_append (pe_var hN hv hd hcd)
    (pa_cons (pe_bm PySem.F.plainAttrs_list PySem.F.slot_list_pop PySem.F.type_list_pop mt_popAt (pe_var hN2 hv2 hd2 hcd2) (pa_cons h.pe pa_nil hs2) hb2 hf2 hl2 hs2 hp2) pa_nil hs1) hb1 hf1 hl1 hs1 hp1) hsw, sn_appPop h.sn⟩
theorem gs_setIx {x : Str} {k : Expr} {tk : TE} {fk : AE} {p1 p2 : Pos} (hN : X.N[i]? = some x) (h : GE X e te ae) (hk : GM X k tk fk) (hv : Vis X.env.scope x := by first | exact Or.inl rfl | exact Or.inr (Or.inl rfl) | exact Or.inr (Or.inr rfl))
    (hd : (x == ("__debug__" : Str)) = false := by decide) (hcd : (x == ("__classdict__" : Str)) = false := by decide)
    (ha : ∀ v, assign (.Subscript (.Name x p1) k p2) X.env v = (do
      let ov ← holding [v] (eval (.Name x p1) X.env)
      let iv ← holding [v, ov] (eval k X.env)
      standAt p2
      holding [v, ov, iv] (setItem ov iv v)
      release [v, ov, iv] []) := by intro _; rfl)
    (hs : swapsWithSole [.Subscript (.Name x p1) k p2] e pos.line X.env = pure false := by rfl) (hw : swappedStores [.Subscript (.Name x p1) k p2] e X.env = pure none := by rfl)
    (h1 : (assignEach [.Subscript (.Name x p1) k p2] X.env).map (·.2) = [assign (.Subscript (.Name x p1) k p2) X.env] := by rfl) :
    GS X W (.Assign [.Subscript (.Name x p1) k p2] e pos) (tAsg te (gSub (tVar i) tk rSetL)) (aSetIx i fk ae) :=
  ⟨ps_asg h.pe (pg_sub (pe_var hN hv hd hcd) hk.pe set_list ha) hs hw h1, sn_setIx h.sn hk.sn⟩

/-! ## a list of own lists -/
def aSetMM (i : Nat) : AS := fun E => some (.nx (E.set i (.mm [])))
theorem gs_setMM {x : Str} {pos' p2 : Pos} (hN : X.N.Nodup) (hi : X.N[i]? = some x) (hx : Loc X.env.scope x := by first | exact .inl rfl | exact .inr rfl) (hs : swapsWith (.List [] p2) (some (.Name x pos')) pos.line X.env = pure false := by rfl) (hf : X.fn x = true ∨ X.env.scope.names.lookup x = some .local := by first | exact .inl rfl | exact .inr rfl) :
    GS X W (.Assign [.Name x pos'] (.List [] p2) pos) (tAsg (tLst tNil) (gName i)) (aSetMM i) := ⟨ps_set hN hi hx (pe_lst pa_nil) hs hf, fun B0 H0 E σ B H rp o z De q => by
  cases z
  refine ⟨Nat.zero_le _, fun p hp => ?_⟩
  obtain ⟨ad, ra⟩ := rp
  have f3 : Fit B H B (upd H p (.lst [])) := Fit.grow ra.fit.bh (same_new hp)
  have r3 := ra.on f3
  exact q _ B _ ⟨_, r3.put (i := i) (v := some (.ref p)) (s := .mm []) (l := [p]) (fun hl => ⟨p, [], rfl, by simp, List.getElem?_set_self (by rw [← r3.len]; exact hl), upd_same, .nil⟩)
    (fun a ha => by rw [List.mem_singleton.mp ha]; exact ⟨ra.fit.hh.free hp, ra.fit.bh.free hp, by rw [upd_same]; simp⟩) (fun k a _ ha => by rw [List.mem_singleton.mp ha]; exact ra.newAt hp k)⟩⟩
/-- found.append(line): the line's list goes over to found -/
def aAppMM (i j : Nat) : AS := fun E => match E[i]? with
  | some (.mm rows) => match E[j]? with
    | some (.mu ds) => if i ≠ j ∧ rows.length < 1000 then some (.nx ((E.set j .no).set i (.mm (rows ++ [ds])))) else none
    | _ => none
  | _ => none
theorem RowsOk.length {K : Fg} {B H : Hp} : ∀ {qs : List Addr} {rows : List (List D)}, RowsOk K B H qs rows → qs.length = rows.length
  | _, _, .nil => rfl
  | _, _, .cons _ _ t => by rw [List.length_cons, List.length_cons, RowsOk.length t]
theorem RowsOk.snoc {K : Fg} {B H : Hp} {q : Addr} {vs : List V} {ds : List D} (h1 : H q = some (.lst vs)) (h2 : DqAll K B vs ds) : ∀ {qs : List Addr} {rows : List (List D)}, RowsOk K B H qs rows → RowsOk K B H (qs ++ [q]) (rows ++ [ds])
  | _, _, .nil => .cons h1 h2 .nil
  | _, _, .cons e d t => .cons e d (RowsOk.snoc h1 h2 t)
theorem gs_appMM {x y : Str} {p1 p2 ap1 cp1 pos' : Pos} (hN : X.N[i]? = some x) (hN2 : X.N[j]? = some y) (hv : Vis X.env.scope x := by first | exact Or.inl rfl | exact Or.inr (Or.inl rfl) | exact Or.inr (Or.inr rfl)) (hv2 : Vis X.env.scope y := by first | exact Or.inl rfl | exact Or.inr (Or.inl rfl) | exact Or.inr (Or.inr rfl))
    (hd : (x == ("__debug__" : Str)) = false := by decide) (hcd : (x == ("__classdict__" : Str)) = false := by decide) (hd2 : (y == ("__debug__" : Str)) = false := by decide) (hcd2 : (y == ("__classdict__" : Str)) = false := by decide)
    (hb1 : attributeBase (.Name x p1) "append" X.env (eval (.Name x p1) X.env) = eval (.Name x p1) X.env := by rfl)
    (hf1 : ((backTo cp1 (starEach [.Name y p2] X.env)).all (fun x => !x.1) && (backToKw cp1 (keywordEach [] X.env)).all (fun x => x.1.isSome) && decide ([Expr.Name y p2].length + ([] : List Keyword).length + (if ([] : List Keyword).isEmpty then 0 else 1) < 30)) = true := by rfl)
    (hl1 : (ap1.endLine == cp1.line) = true := by rfl) (hs1 : starEach [.Name y p2] X.env = (false, eval (.Name y p2) X.env) :: starEach [] X.env := by rfl) (hp1 : (backTo cp1 (starEach [] X.env)).any (·.1) = false := by rfl)
    (hsw : swapsWith (.Call (.Attribute (.Name x p1) "append" ap1) [.Name y p2] [] cp1) none pos'.line X.env = pure false := by rfl) :
    GS X W (.Expr (.Call (.Attribute (.Name x p1) "append" ap1) [.Name y p2] [] cp1) pos') (tDrop (tBM X.K "list" rAppend (tVar i) (tCons (tVar j) tNil))) (aAppMM i j) :=
  ⟨ps_expr (pe_bm PySem.F.plainAttrs_list PySem.F.slot_list_append PySem.F.type_list_append mt_append (pe_var hN hv hd hcd) (pa_cons (pe_var hN2 hv2 hd2 hcd2) pa_nil hs1) hb1 hf1 hl1 hs1 hp1) hsw, fun B0 H0 E σ B H rp o z De q => by
    unfold aAppMM at z
    split at z
    · rename_i rows y1
      split at z
      · rename_i ds y2
        split at z
        · rename_i hc
          cases z
          obtain ⟨hij, hlen⟩ := hc
          obtain ⟨ad, ra⟩ := rp
          obtain ⟨p, qs, ea, nd, e1, hh1, hrw⟩ := ra.sl i _ y1
          obtain ⟨r, vs, ea2, e2, hh2, hdd⟩ := ra.sl j _ y2
          have hpi : p ∈ ad i := by rw [ea]; exact List.mem_cons_self ..
          have hrj : r ∈ ad j := by rw [ea2]; exact List.mem_singleton.mpr rfl
          have hrn : r ∉ ad i := fun h => ra.dj j i r (Ne.symm hij) hrj h
          have hrp : r ≠ p := fun e => hrn (by rw [e]; exact hpi)
          have hpq : p ∉ qs := by rw [ea] at nd; exact (List.nodup_cons.mp nd).1
          refine ⟨.ref p, e1, ty_list hh1, .ref r, e2, p, _, .ref r, rfl, rfl, hh1, ?_, ?_⟩
          · rw [List.length_map, hrw.length]
            exact sz_lt (by omega)
          · -- the state behind it
            have ob := ra.ow i p hpi
            have oj := ra.ow j r hrj
            have hst : ∀ a, a ≠ p → upd H p (.lst (qs.map V.ref ++ [V.ref r])) a = H a := fun a ha => upd_ne ha
            refine q σ B _ ⟨fun k => if k = i then p :: (qs ++ [r]) else if k = j then [] else ad k, ⟨ra.fit.bb, same_upd ra.fit.bh ob.2.1, same_upd ra.fit.hh ob.1, ra.fit.nw⟩, by rw [List.length_set, List.length_set]; exact ra.len, fun k a ha => ?_, fun k s e => ?_, fun k l a hkl ha hl => ?_⟩
            · by_cases hk : k = i
              · rw [if_pos hk] at ha
                have hcase : a = p ∨ a ∈ qs ∨ a = r := by
                  rcases List.mem_cons.mp ha with h | h
                  · exact .inl h
                  · rcases List.mem_append.mp h with h | h
                    · exact .inr (.inl h)
                    · exact .inr (.inr (List.mem_singleton.mp h))
                rcases hcase with h | h | h
                · subst h
                  exact ⟨ob.1, ob.2.1, by rw [upd_same]; simp⟩
                · have := ra.ow i a (by rw [ea]; exact List.mem_cons_of_mem _ h)
                  exact ⟨this.1, this.2.1, by rw [hst a (fun e => hpq (e ▸ h))]; exact this.2.2⟩
                · subst h
                  exact ⟨oj.1, oj.2.1, by rw [hst a hrp]; exact oj.2.2⟩
              · rw [if_neg hk] at ha
                by_cases hk2 : k = j
                · rw [if_pos hk2] at ha; cases ha
                · rw [if_neg hk2] at ha
                  have := ra.ow k a ha
                  exact ⟨this.1, this.2.1, by rw [hst a (fun e => ra.dj k i a hk ha (e ▸ hpi))]; exact this.2.2⟩
            · by_cases hk : k = i
              · subst hk
                by_cases hl : k < E.length
                · rw [List.getElem?_set_self (by rw [List.length_set]; exact hl)] at e
                  cases e
                  rw [if_pos rfl]
                  refine ⟨p, qs ++ [r], rfl, ?_, e1, ?_, ?_⟩
                  · rw [ea] at nd
                    rw [List.nodup_cons]
                    refine ⟨fun h => ?_, ?_⟩
                    · rcases List.mem_append.mp h with h | h
                      · exact hpq h
                      · exact hrp (List.mem_singleton.mp h).symm
                    · rw [List.nodup_append]
                      refine ⟨(List.nodup_cons.mp nd).2, by simp, fun a ha b hb => ?_⟩
                      rw [List.mem_singleton.mp hb]
                      rintro rfl
                      exact hrn (by rw [ea]; exact List.mem_cons_of_mem _ ha)
                  · rw [upd_same, List.map_append]
                    rfl
                  · refine RowsOk.snoc (by rw [hst r hrp]; exact hh2) hdd (hrw.imp (Same.refl _) fun a ha => hst a (fun e => hpq (e ▸ ha)))
                · rw [List.getElem?_eq_none (by rw [List.length_set, List.length_set]; omega)] at e; cases e
              · rw [List.getElem?_set_ne (Ne.symm hk)] at e
                rw [if_neg hk]
                by_cases hk2 : k = j
                · subst hk2
                  by_cases hl : k < E.length
                  · rw [List.getElem?_set_self hl] at e
                    cases e
                    trivial
                  · rw [List.getElem?_eq_none (by rw [List.length_set]; omega)] at e; cases e
                · rw [List.getElem?_set_ne (Ne.symm hk2)] at e
                  rw [if_neg hk2]
                  exact (ra.sl k s e).imp (Same.refl _) fun a ha => hst a (fun e => ra.dj k i a hk ha (e ▸ hpi))
            · have own : ∀ k a, a ∈ (if k = i then p :: (qs ++ [r]) else if k = j then [] else ad k) → (k = i ∧ (a ∈ ad i ∨ a = r)) ∨ (k ≠ i ∧ k ≠ j ∧ a ∈ ad k) := fun k a ha => by
                by_cases hk : k = i
                · rw [if_pos hk] at ha
                  refine .inl ⟨hk, ?_⟩
                  rcases List.mem_cons.mp ha with h | h
                  · exact .inl (h ▸ hpi)
                  · rcases List.mem_append.mp h with h | h
                    · exact .inl (by rw [ea]; exact List.mem_cons_of_mem _ h)
                    · exact .inr (List.mem_singleton.mp h)
                · rw [if_neg hk] at ha
                  by_cases hk2 : k = j
                  · rw [if_pos hk2] at ha; cases ha
                  · rw [if_neg hk2] at ha
                    exact .inr ⟨hk, hk2, ha⟩
              rcases own k a ha with ⟨h1, h2⟩ | ⟨h1, h2, h3⟩
              · rcases own l a hl with ⟨k1, k2⟩ | ⟨k1, k2, k3⟩
                · exact hkl (h1.trans k1.symm)
                · rcases h2 with h2 | h2
                  · exact ra.dj i l a (Ne.symm k1) h2 k3
                  · rw [h2] at k3
                    exact ra.dj j l r (Ne.symm k2) hrj k3
              · rcases own l a hl with ⟨k1, k2⟩ | ⟨k1, k2, k3⟩
                · rcases k2 with k2 | k2
                  · exact ra.dj i k a (Ne.symm h1) k2 h3
                  · rw [k2] at h3
                    exact ra.dj j k r (Ne.symm h2) hrj h3
                · exact ra.dj k l a hkl h3 k3
        · cases z
      · cases z
    · cases z⟩
/-- found[k], read -/
def aIxMM (i : Nat) (f : AE) : AE := fun E => match E[i]? with
  | some (.mm rows) => match f E with
    | some (.int n) => if 0 ≤ n then (match rows[n.toNat]? with
      | some ds => some (.lst ds)
      | none => none) else none
    | _ => none
  | _ => none
theorem RowsOk.get {K : Fg} {B H : Hp} : ∀ {qs : List Addr} {rows : List (List D)} {n : Nat} {ds : List D}, RowsOk K B H qs rows → rows[n]? = some ds → ∃ q vs, qs[n]? = some q ∧ H q = some (.lst vs) ∧ DqAll K B vs ds
  | _, _, _, _, .nil, e => by simp at e
  | _, _, 0, _, .cons e d _, z => by simp at z; subst z; exact ⟨_, _, rfl, e, d⟩
  | _, _, n + 1, ds, .cons _ _ t, z => by
    obtain ⟨q, vs, h1, h2⟩ := RowsOk.get (n := n) (ds := ds) t (by simpa using z)
    exact ⟨q, vs, by simpa using h1, h2⟩
theorem atI_of {α : Type} {xs : List α} {n : Int} {v : α} (h0 : 0 ≤ n) (h : xs[n.toNat]? = some v) : atI xs n = some v := by
  have e : n = ((n.toNat : Nat) : Int) := by omega
  rw [e]
  exact atI_nat h
theorem gm_mm (i : Nat) {x : Str} {k : Expr} {tk : TE} {fk : AE} {p1 : Pos} (h : GM X k tk fk) (hN : X.N[i]? = some x := by rfl) (hv : Vis X.env.scope x := by first | exact Or.inl rfl | exact Or.inr (Or.inl rfl) | exact Or.inr (Or.inr rfl))
    (hd : (x == ("__debug__" : Str)) = false := by decide) (hcd : (x == ("__classdict__" : Str)) = false := by decide) (hp : PlainIx k := by intro _ _; rfl) : GM X (.Subscript (.Name x p1) k pos) (tOp (rIx X.K) (tVar i) tk) (aIxMM i fk) :=
  ⟨pe_ix ix_seq (pe_var hN hv hd hcd) h.pe hp, fun B0 H0 E σ B H rp d z Q q => by
    unfold aIxMM at z
    split at z
    · rename_i rows y1
      split at z
      · rename_i n y2
        split at z
        · rename_i h0
          cases y3 : rows[n.toNat]? with
          | none => rw [y3] at z; cases z
          | some ds =>
            rw [y3] at z
            cases z
            obtain ⟨ad, ra⟩ := rp
            obtain ⟨p, qs, ea, nd, e1, hh1, hrw⟩ := ra.sl i _ y1
            refine ⟨.ref p, e1, h.sn B0 H0 E σ B H ⟨ad, ra⟩ _ y2 _ fun v B1 H1 f1 h1 => ?_⟩
            have r1 := ra.on f1
            obtain ⟨p', qs', ea', nd', e1', hh1', hrw'⟩ := r1.sl i _ y1
            rw [e1] at e1'
            cases e1'
            obtain ⟨r, vs, hq, hh, hdd⟩ := hrw'.get y3
            refine .inl ⟨p, _, n, .ref r, rfl, h1.int, SqL.of hh1', atI_of h0 (by rw [List.getElem?_map, hq]; rfl), q _ B1 H1 f1 (.inr ⟨r, vs, ds, rfl, rfl, hh, hdd⟩)⟩
        · cases z
      · cases z
    · cases z⟩
/-- found[k][m] = e -/
def aSetIxMM (i : Nat) (fk fm f : AE) : AS := fun E => match E[i]? with
  | some (.mm rows) => match f E with
    | some d => match fk E with
      | some (.int n) => match fm E with
        | some (.int m) => if 0 ≤ n ∧ 0 ≤ m then (match rows[n.toNat]? with
          | some ds => if m.toNat < ds.length then some (.nx (E.set i (.mm (rows.set n.toNat (ds.set m.toNat d))))) else none
          | none => none) else none
        | _ => none
      | _ => none
    | none => none
  | _ => none
theorem RowsOk.set {K : Fg} {B H : Hp} {q : Addr} {vs : List V} {ds : List D} (hd : DqAll K B vs ds) : ∀ {qs : List Addr} {rows : List (List D)} {n : Nat}, RowsOk K B H qs rows → qs.Nodup → qs[n]? = some q → RowsOk K B (upd H q (.lst vs)) qs (rows.set n ds)
  | _, _, _, .nil, _, e => by simp at e
  | _, _, 0, .cons e d t, nd, z => by
    simp at z
    subst z
    refine .cons upd_same hd (t.imp (Same.refl _) fun a ha => upd_ne ?_)
    rintro rfl
    exact (List.nodup_cons.mp nd).1 ha
  | _, _, n + 1, .cons e d t, nd, z => by
    have z' : _ := z
    rw [List.getElem?_cons_succ] at z'
    refine .cons (by rw [upd_ne]; exact e; rintro rfl; exact (List.nodup_cons.mp nd).1 (List.mem_of_getElem? z')) d (RowsOk.set hd t (List.nodup_cons.mp nd).2 z')
theorem gs_setIxMM {x : Str} {k m : Expr} {tk tm : TE} {fk fm : AE} {p1 p2 p3 : Pos} (hN : X.N[i]? = some x) (h : GE X e te ae) (hk : GM X k tk fk) (hm : GM X m tm fm) (hv : Vis X.env.scope x := by first | exact Or.inl rfl | exact Or.inr (Or.inl rfl) | exact Or.inr (Or.inr rfl))
    (hd : (x == ("__debug__" : Str)) = false := by decide) (hcd : (x == ("__classdict__" : Str)) = false := by decide) (hp : PlainIx k := by intro _ _; rfl)
    (ha : ∀ v, assign (.Subscript (.Subscript (.Name x p1) k p2) m p3) X.env v = (do
      let ov ← holding [v] (eval (.Subscript (.Name x p1) k p2) X.env)
      let iv ← holding [v, ov] (eval m X.env)
      standAt p3
      holding [v, ov, iv] (setItem ov iv v)
      release [v, ov, iv] []) := by intro _; rfl)
    (hs : swapsWithSole [.Subscript (.Subscript (.Name x p1) k p2) m p3] e pos.line X.env = pure false := by rfl) (hw : swappedStores [.Subscript (.Subscript (.Name x p1) k p2) m p3] e X.env = pure none := by rfl)
    (h1 : (assignEach [.Subscript (.Subscript (.Name x p1) k p2) m p3] X.env).map (·.2) = [assign (.Subscript (.Subscript (.Name x p1) k p2) m p3) X.env] := by rfl) :
    GS X W (.Assign [.Subscript (.Subscript (.Name x p1) k p2) m p3] e pos) (tAsg te (gSub (tOp (rIx X.K) (tVar i) tk) tm rSetL)) (aSetIxMM i fk fm ae) :=
  ⟨ps_asg h.pe (pg_sub (pe_ix ix_seq (pe_var hN hv hd hcd) hk.pe hp) hm.pe set_list ha) hs hw h1, fun B0 H0 E σ B H rp o z De q => by
    unfold aSetIxMM at z
    split at z
    · rename_i rows y1
      cases y2 : ae E with
      | none => rw [y2] at z; cases z
      | some d =>
        rw [y2] at z
        dsimp only at z
        split at z
        · rename_i n y3
          split at z
          · rename_i mm y4
            split at z
            · rename_i hc
              cases y5 : rows[n.toNat]? with
              | none => rw [y5] at z; cases z
              | some ds =>
                rw [y5] at z
                dsimp only at z
                split at z
                · rename_i hml
                  cases z
                  refine h.sn B0 H0 E σ B H rp d y2 _ fun v B1 H1 f1 hv1 => ?_
                  have rp1 := rp.on f1
                  obtain ⟨ad, ra⟩ := rp1
                  obtain ⟨p, qs, ea, nd, e1, hh1, hrw⟩ := ra.sl i _ y1
                  refine ⟨.ref p, e1, hk.sn B0 H0 E σ B1 H1 ⟨ad, ra⟩ _ y3 _ fun u B2 H2 f2 hu => ?_⟩
                  have r2 := ra.on f2
                  obtain ⟨p2, qs2, ea2, nd2, e2, hh2, hrw2⟩ := r2.sl i _ y1
                  rw [e1] at e2
                  cases e2
                  obtain ⟨r, vs, hq, hhr, hdd⟩ := hrw2.get y5
                  refine .inl ⟨p, _, n, .ref r, rfl, hu.int, SqL.of hh2, atI_of hc.1 (by rw [List.getElem?_map, hq]; rfl), ?_⟩
                  refine hm.sn B0 H0 E σ B2 H2 ⟨ad, r2⟩ _ y4 _ fun u2 B3 H3 f3 hu2 => ?_
                  have r3 := r2.on f3
                  obtain ⟨p3, qs3, ea3, nd3, e3, hh3, hrw3⟩ := r3.sl i _ y1
                  rw [e1] at e3
                  cases e3
                  have eq3 : qs3 = qs2 := (List.cons.inj (ea3.symm.trans ea2)).2
                  subst eq3
                  obtain ⟨r', vs', hq', hhr', hdd'⟩ := hrw3.get y5
                  rw [hq] at hq'
                  cases hq'
                  have nd4 : (p :: qs3).Nodup := by rw [← ea3]; exact nd3
                  have hrp : p ≠ r := fun e => (List.nodup_cons.mp nd4).1 (e ▸ List.mem_of_getElem? hq)
                  have hri : r ∈ ad i := by rw [ea3]; exact List.mem_cons_of_mem _ (List.mem_of_getElem? hq)
                  refine ⟨r, vs', mm, mm.toNat, rfl, hu2.int, hhr', ?_, ?_⟩
                  · unfold ixN
                    rw [if_pos hc.2, if_pos (by rw [hdd'.length]; omega)]
                  · refine q σ B3 _ ⟨ad, r3.chg hri ⟨p, qs3, ea3, nd3, e1, by rw [upd_ne hrp]; exact hh3, ?_⟩⟩
                    exact RowsOk.set (hdd'.set (hv1.mono (f2.trans f3).bb) mm.toNat) hrw3 (List.nodup_cons.mp nd4).2 hq
                · cases z
            · cases z
          · cases z
        · cases z
    · cases z⟩
end
end Rf
namespace Rf
open PySem L2
/-! ## a list of own lists becomes data -/
theorem rows_freeze {K : Fg} {B H : Hp} (s : Same B H) : ∀ {qs : List Addr} {rows : List (List D)}, RowsOk K B H qs rows → (∀ q ∈ qs, B q = none) → qs.Nodup →
    ∃ B1, Same B B1 ∧ Same B1 H ∧ (∀ a o, B1 a = some o → B a = some o ∨ a ∈ qs) ∧ DqAll K B1 (qs.map V.ref) (rows.map D.lst)
  | _, _, .nil, _, _ => ⟨B, Same.refl _, s, fun _ _ e => .inl e, .nil⟩
  | _, _, .cons (q := q) (vs := vs) (ds := ds) (qs := qs) e d t, hn, nd => by
    obtain ⟨B1, h1, h2, h3, h4⟩ := rows_freeze s t (fun x hx => hn x (List.mem_cons_of_mem _ hx)) (List.nodup_cons.mp nd).2
    have hq : B1 q = none := by
      cases z : B1 q with
      | none => rfl
      | some o =>
        rcases h3 q o z with y | y
        · rw [hn q (List.mem_cons_self ..)] at y; cases y
        · exact absurd y (List.nodup_cons.mp nd).1
    refine ⟨upd B1 q (.lst vs), h1.trans (same_new hq), fun a o z => ?_, fun a o z => ?_, ?_⟩
    · by_cases ha : a = q
      · subst ha
        rw [upd_same] at z
        rw [e]
        exact z
      · rw [upd_ne ha] at z
        exact h2 _ _ z
    · by_cases ha : a = q
      · exact .inr (by rw [ha]; exact List.mem_cons_self ..)
      · rw [upd_ne ha] at z
        rcases h3 a o z with y | y
        · exact .inl y
        · exact .inr (List.mem_cons_of_mem _ y)
    · exact .cons (.lst upd_same (d.mono (h1.trans (same_new hq)))) (h4.mono (same_new hq))
theorem Rep.freezeMM {K : Fg} {B0 H0 B H : Hp} {E : En} {σ : L2.St} (r : Rep K B0 H0 E σ B H) {i : Nat} {rows : List (List D)} (e : E[i]? = some (.mm rows)) : ∃ B', Rep K B0 H0 (E.set i (.im (.lst (rows.map D.lst)))) σ B' H := by
  obtain ⟨ad, r⟩ := r
  obtain ⟨p, qs, ea, nd, e1, hh, hrw⟩ := r.sl i _ e
  have nd' : (p :: qs).Nodup := by rw [← ea]; exact nd
  have own : ∀ a, a = p ∨ a ∈ qs → a ∈ ad i := fun a ha => by
    rw [ea]
    rcases ha with h | h
    · rw [h]; exact List.mem_cons_self ..
    · exact List.mem_cons_of_mem _ h
  obtain ⟨B1, h1, h2, h3, h4⟩ := rows_freeze r.fit.bh hrw (fun q hq => (r.ow i q (own q (.inr hq))).2.1) (List.nodup_cons.mp nd').2
  have hp : B1 p = none := by
    cases z : B1 p with
    | none => rfl
    | some o =>
      rcases h3 p o z with y | y
      · rw [(r.ow i p (own p (.inl rfl))).2.1] at y; cases y
      · exact absurd y (List.nodup_cons.mp nd').1
  have sm : Same B (upd B1 p (.lst (qs.map V.ref))) := h1.trans (same_new hp)
  have in3 : ∀ a o, upd B1 p (.lst (qs.map V.ref)) a = some o → B a = some o ∨ a ∈ ad i := fun a o z => by
    by_cases ha : a = p
    · exact .inr (own a (.inl ha))
    · rw [upd_ne ha] at z
      rcases h3 a o z with y | y
      · exact .inl y
      · exact .inr (own a (.inr y))
  refine ⟨upd B1 p (.lst (qs.map V.ref)), fun j => if j = i then [] else ad j, ⟨r.fit.bb.trans sm, fun a o z => ?_, r.fit.hh, fun a o z => ?_⟩, by rw [List.length_set]; exact r.len, fun j a ha => ?_, fun j s' ej => ?_, fun j k a hjk ha hk => ?_⟩
  · by_cases ha : a = p
    · subst ha
      rw [upd_same] at z
      rw [hh]
      exact z
    · rw [upd_ne ha] at z
      exact h2 _ _ z
  · rcases in3 a o z with y | y
    · exact r.fit.nw a o y
    · exact .inr (r.ow i a y).1
  · by_cases hj : j = i
    · rw [if_pos hj] at ha; cases ha
    · rw [if_neg hj] at ha
      obtain ⟨a1, a2, a3⟩ := r.ow j a ha
      refine ⟨a1, ?_, a3⟩
      cases z : upd B1 p (.lst (qs.map V.ref)) a with
      | none => rfl
      | some o =>
        rcases in3 a o z with y | y
        · rw [a2] at y; cases y
        · exact absurd y (r.dj j i a hj ha)
  · by_cases hj : j = i
    · subst hj
      by_cases hl : j < E.length
      · rw [List.getElem?_set_self hl] at ej
        cases ej
        exact ⟨.ref p, e1, .lst upd_same (h4.mono (same_new hp))⟩
      · rw [List.getElem?_eq_none (by simpa using hl)] at ej; cases ej
    · rw [List.getElem?_set_ne (Ne.symm hj)] at ej
      rw [if_neg hj]
      exact (r.sl j s' ej).imp sm fun a _ => rfl
  · by_cases hj : j = i
    · rw [if_pos hj] at ha; cases ha
    · by_cases hk2 : k = i
      · rw [if_pos hk2] at hk; cases hk
      · rw [if_neg hj] at ha
        rw [if_neg hk2] at hk
        exact r.dj j k a hjk ha hk
def aFrzMM (i : Nat) (f : AS) : AS := fun E => match E[i]? with
  | some (.mm rows) => f (E.set i (.im (.lst (rows.map D.lst))))
  | _ => none
theorem GS.frzMM {X : Cx} {W : WX} {st : Stmt} {t : TS} {f : AS} (h : GS X W st t f) (i : Nat) : GS X W st t (aFrzMM i f) := ⟨h.ps, fun B0 H0 E σ B H rp o z De q => by
  unfold aFrzMM at z
  cases y : E[i]? with
  | none => rw [y] at z; cases z
  | some s =>
    rw [y] at z
    cases s with
    | mm rows =>
      obtain ⟨B', rp'⟩ := rp.freezeMM y
      exact h.sn B0 H0 _ σ B' H rp' o z De q
    | _ => cases z⟩
end Rf
set_option Elab.async false
set_option linter.all false
set_option maxRecDepth 100000
set_option maxHeartbeats 4000000
namespace Rf
open PySem L2

/-! ## try: .. except X as e: .. -/
theorem pss_ex {X : Cx} {st : List Stmt} {α : Type} {Pa : α → Prop} {t : α → TS} (h : ∀ x, Pa x → PSs X st (t x)) : PSs X st (fun De σ H => ∃ x, Pa x ∧ t x De σ H) :=
  ⟨fun pins s σ H De I ⟨x, hx, q⟩ => (h x hx).run pins s σ H De I q⟩
/-- hd: what the handler hands back for an exception; none within: it is not caught -/
def aTry (i : Nat) (ab : AS) (hd : Xc → Option (Option D)) : AS := fun E => match ab E with
  | some (.er c E1) => match hd c with
    | some (some d) => if i < E1.length then some (.rt d) else none
    | some none => some (.er c E1)
    | none => none
  | r => r
section
variable {X : Cx} {x n : Str} {c : Value} {i : Nat} {body suite : List Stmt} {b0 : Stmt} {np pos pos' : Pos} {tb : WX → TS} {ts : Addr → Value → Option Addr → TS} {W : WX} {ab : AS} {hd : Xc → Option (Option D)}
theorem sn_try {K : Fg} {mg : Str → Option Value} (hb : ∀ W', SnS K mg W' (tb W') ab)
    (hw : ∀ ce cls dd Bx H, Xis K mg ce cls dd Bx → (hd ce = some none → PySem.W.exmOne K cls c = some false) ∧ (∀ d, hd ce = some (some d) → PySem.W.exmOne K cls c = some true ∧
      ∀ (a : Addr) (σ : L2.St) (B : Hp) (De : Ends), σ[i]? = some (some (.ref a)) → Same B H → (∀ v B' H', Fit B H B' H' → Dq K B' v d → De.rt v H') → ts a cls dd De σ H)) :
    SnS K mg W (fun De σ H => tb (wAs K c i ts W De) De σ H) (aTry i ab hd) := fun B0 H0 E σ B H rp o z De q => by
  unfold aTry at z
  cases y : ab E with
  | none => rw [y] at z; cases z
  | some o1 =>
    rw [y] at z
    refine hb _ B0 H0 E σ B H rp o1 y De ?_
    cases o1 with
    | nx E1 => cases z; exact q
    | rt d => cases z; exact q
    | bk E1 => cases z; exact q
    | ct E1 => cases z; exact q
    | rw d E1 => cases z; exact q
    | er ce E1 =>
      dsimp only at z
      intro cls dd σ1 B1 H1 hx r1
      obtain ⟨w1, w2⟩ := hw ce cls dd B1 H1 hx
      cases y2 : hd ce with
      | none => rw [y2] at z; cases z
      | some r =>
        rw [y2] at z
        cases r with
        | none =>
          cases z
          exact ⟨false, w1 y2, fun h => (nomatch h), fun _ => q cls dd σ1 B1 H1 hx r1⟩
        | some d =>
          dsimp only at z
          split at z
          · rename_i hl
            cases z
            obtain ⟨w3, w4⟩ := w2 d y2
            refine ⟨true, w3, fun _ a ha => ?_, fun h => (nomatch h)⟩
            exact w4 a _ B1 _ (List.getElem?_set_self (by rw [← r1.len]; exact hl)) r1.bh fun v B' H' f' h' => q v B' H' (r1.fit.trans f') h'
          · cases z
/-- a context that takes any wish -/
theorem any_takes (hs : X.stack = X.env :: X.outer) (hf : X.env.frame = some X.env.locals) (hex : X.ex = []) (W' : WX) : ∃ xe, Takes (X.tr [] xe) W' ∧ PassesOwn (model X.prog X.w) X.A X.env xe := by
  refine ⟨fun e s' => wpAny (model X.prog X.w) X.A (leaving X.env e) (fun _ s'' => L2.CX X.prog X.w X.outer X.H_0 X.s_0 (fun cls d H => ∃ σ, W' cls d σ H) e s'') (fun _ _ => True) s', ?_, passes_of (X := X.tr [] _) rfl⟩
  exact (takes_of (X := X.tr [] _) (E := fun cls d H => ∃ σ, W' cls d σ H) hs hf hex rfl).imp fun c d σ H h => ⟨σ, h⟩
theorem gs_try1 (hs : X.stack = X.env :: X.outer) (hf : X.env.frame = some X.env.locals) (hex : X.ex = []) (hN : X.N.Nodup) (hi : X.N[i]? = some n) (hln : X.env.kindOf n = some .local) (hc : Names X x c) (tk : Takes X W)
    (hb : ∀ (W' : WX) (pn : List (Addr × Obj)) (xe : Value → Shared → Prop), Takes (X.tr pn xe) W' → PassesOwn (model X.prog X.w) X.A X.env xe → GSs (X.tr pn xe) W' body (tb W') ab)
    (hsu : ∀ (a : Addr) (oe : Obj) (cls : Value) (d : Option Addr) (pn : List (Addr × Obj)), Zc cls d oe → (∃ vs, oe.data = .fields vs) → PSs (X.suite a ((a, oe) :: pn)) (b0 :: suite) (ts a cls d))
    (hw : ∀ ce cls dd Bx H, Xis X.K X.mg ce cls dd Bx → (hd ce = some none → PySem.W.exmOne X.K cls c = some false) ∧ (∀ d, hd ce = some (some d) → PySem.W.exmOne X.K cls c = some true ∧
      ∀ (a : Addr) (σ : L2.St) (B : Hp) (De : Ends), σ[i]? = some (some (.ref a)) → Same B H → (∀ v B' H', Fit B H B' H' → Dq X.K B' v d → De.rt v H') → ts a cls dd De σ H)) :
    GS X W (.Try body [.ExceptHandler (some (.Name x np)) (some n) (b0 :: suite) pos'] [] [] pos) (fun De σ H => tb (wAs X.K c i ts W De) De σ H) (aTry i ab hd) :=
  ⟨ps_try_as hs hf hN hi hln hc tk (fun W' pn xe t p => (hb W' pn xe t p).ps) hsu, sn_try (fun W' => by
    obtain ⟨xe, t, p⟩ := any_takes hs hf hex W'
    exact (hb W' [] xe t p).sn) hw⟩
end

/-! ## tests within a suite, about the exception that is held in slot i -/
structure QE (X : Cx) (e : Expr) (te : TE) (i : Nat) (a : Addr) (b : Bool) : Prop where
  pe : PE X e te
  ev : ∀ (σ : L2.St) (H : Hp) (Q : VK), σ[i]? = some (some (.ref a)) → Q (.bl b) H → te σ H Q
structure QT (X : Cx) (e : Expr) (tt : TT) (i : Nat) (a : Addr) (b : Bool) : Prop where
  pt : PT X e tt
  ev : ∀ (σ : L2.St) (H : Hp) (Q : Bool → Hp → Prop), σ[i]? = some (some (.ref a)) → Q b H → tt σ H Q
structure QW (X : Cx) (e : Expr) (tt : TT) (i : Nat) (a : Addr) (b : Bool) : Prop where
  pw : PW X e tt
  ev : ∀ (σ : L2.St) (H : Hp) (Q : Bool → Hp → Prop), σ[i]? = some (some (.ref a)) → Q b H → tt σ H Q
section
variable {X : Cx} {i : Nat} {a : Addr} {b b' : Bool} {e e1 e2 : Expr} {te t2 : TE} {tt tu : TT} {rest : List Expr} {pos p p1 p2 : Pos} {x y : Str}
theorem qe_isi {C Dd : Addr} {oe : Obj} {pn : List (Addr × Obj)} (hC : ExcC X.K Dd) (hz : Zc (.ref Dd) none oe) (hf : ∃ vs, oe.data = .fields vs) (hm : X.mg "isinstance" = none) (hy : X.mg y = some (.ref C)) (hk : PySem.W.kitOne X.K (.ref Dd) (.ref C) = some b)
    (hN : X.N[i]? = some x) (hg : Gl (X.suite a ((a, oe) :: pn)) "isinstance" := by rfl) (hgy : Gl (X.suite a ((a, oe) :: pn)) y := by rfl) (hv : Vis X.env.scope x := by first | exact Or.inl rfl | exact Or.inr (Or.inl rfl) | exact Or.inr (Or.inr rfl)) (hd : (x == ("__debug__" : Str)) = false := by decide)
    (hcd : (x == ("__classdict__" : Str)) = false := by decide) (hdy : (y == ("__debug__" : Str)) = false := by decide)
    (hs1 : starEach [.Name x p1, .Name y p2] (X.suite a ((a, oe) :: pn)).env = (false, eval (.Name x p1) (X.suite a ((a, oe) :: pn)).env) :: starEach [.Name y p2] (X.suite a ((a, oe) :: pn)).env := by rfl)
    (hs2 : starEach [.Name y p2] (X.suite a ((a, oe) :: pn)).env = (false, eval (.Name y p2) (X.suite a ((a, oe) :: pn)).env) :: starEach [] (X.suite a ((a, oe) :: pn)).env := by rfl)
    (hpl : (backTo pos (starEach [.Name y p2] (X.suite a ((a, oe) :: pn)).env)).any (·.1) = false := by rfl) :
    QE (X.suite a ((a, oe) :: pn)) (.Call (.Name "isinstance" p) [.Name x p1, .Name y p2] [] pos) (tCB (rIsE X.K Dd a) (tCons (tVar i) (tCons (tC (.ref C)) tNil))) i a b :=
  ⟨pe_callB (call_isE hC hz hf) hg hm (by decide +kernel) (pa_cons (pe_var hN hv hd hcd) (pa_cons (pe_glob (v := .ref C) hgy hy rfl hdy) pa_nil hs2) hs1) (by decide) (by decide) hs1 hpl,
   fun σ H Q hi q => ⟨.ref a, hi, .ref C, .ref C, b, rfl, fun u r => r, hk, q⟩⟩
theorem QE.t (h : QE X e te i a b) (he : ∀ whole, isTrue e X.env whole = (do let v ← whole; standAt e.pos; holding [v] (truthy v)) := by intro _; rfl) : QT X e (tB te) i a b :=
  ⟨pt_val h.pe he, fun σ H Q hi q => h.ev σ H _ hi ⟨b, rfl, q⟩⟩
theorem QT.not (h : QT X e tt i a b) : QT X (.UnaryOp .Not e pos) (tNot tt) i a (!b) := ⟨pt_not h.pt, fun σ H Q hi q => h.ev σ H _ hi q⟩
theorem qw_and1 (h : QT X e tt i a b) : QW X (.BoolOp .And [e] pos) tt i a b := ⟨pw_and1 h.pt, h.ev⟩
theorem qw_and (h : QT X e1 tt i a b) (h2 : QW X (.BoolOp .And (e2 :: rest) pos) tu i a b') : QW X (.BoolOp .And (e1 :: e2 :: rest) pos) (tAnd tt tu) i a (b && b') := ⟨pw_and h.pt h2.pw, fun σ H Q hi q => h.ev σ H _ hi (by
  cases b with
  | true => exact iteT (h2.ev σ H Q hi q)
  | false => exact iteF q)⟩
theorem qw_or1 (h : QT X e tt i a b) : QW X (.BoolOp .Or [e] pos) tt i a b := ⟨pw_or1 h.pt, h.ev⟩
theorem qw_or (h : QT X e1 tt i a b) (h2 : QW X (.BoolOp .Or (e2 :: rest) pos) tu i a b') : QW X (.BoolOp .Or (e1 :: e2 :: rest) pos) (tOr tt tu) i a (b || b') := ⟨pw_or h.pt h2.pw, fun σ H Q hi q => h.ev σ H _ hi (by
  cases b with
  | true => exact iteT q
  | false => exact iteF (h2.ev σ H Q hi q))⟩
theorem QW.t (h : QW X e tt i a b) : QT X e tt i a b := ⟨h.pw.pt, h.ev⟩
theorem qe_one {op} (h : QE X e te i a b) : QE X (.BoolOp op [e] pos) te i a b := ⟨pe_one h.pe, h.ev⟩
theorem qe_or (h : QE X e1 te i a b) (h2 : QE X (.BoolOp .Or (e2 :: rest) pos) t2 i a b') : QE X (.BoolOp .Or (e1 :: e2 :: rest) pos) (tOrV te t2) i a (b || b') := ⟨pe_or h.pe h2.pe, fun σ H Q hi q => h.ev σ H _ hi ⟨b, rfl, by
  cases b with
  | true => exact iteT q
  | false => exact iteF (h2.ev σ H Q hi q)⟩⟩
end
end Rf
namespace Rf
open PySem L2
/-! ## the exception classes of the program -/
def subX (x y : Str) : Bool := x == y || y == ("RingError" : Str)
structure XT (K : Fg) (mg : Str → Option Value) (ca : Str → Addr) (cls : List Str) : Prop where
  ex : ∀ x ∈ cls, XG K mg x (ca x)
  c : ∀ x ∈ cls, ExcC K (ca x)
  kit : ∀ x ∈ cls, ∀ y ∈ cls, PySem.W.kitOne K (.ref (ca x)) (.ref (ca y)) = some (subX x y)
  exm : ∀ x ∈ cls, ∀ y ∈ cls, PySem.W.exmOne K (.ref (ca x)) (.ref (ca y)) = some (subX x y)
  ve : ∀ x ∈ cls, PySem.W.kitOne K (.ref (ca x)) (.type "ValueError") = some true
end Rf
set_option Elab.async false
set_option linter.all false
set_option maxRecDepth 100000
set_option maxHeartbeats 4000000
namespace Rf
open PySem L2

/-! ## a suite that hands back one string -/
structure QS (X : Cx) (b : List Stmt) (t : TS) (i : Nat) (a : Addr) (d : D) : Prop where
  ps : PSs X b t
  ev : ∀ (B : Hp) (σ : L2.St) (H : Hp) (De : Ends), σ[i]? = some (some (.ref a)) → Same B H → (∀ v B' H', Fit B H B' H' → Dq X.K B' v d → De.rt v H') → t De σ H
section
variable {X : Cx} {i j : Nat} {a : Addr} {b : Bool} {e c : Expr} {te : TE} {tt : TT} {s1 s2 : Str} {j1 j2 : Nat} {pos p1 p2 p3 p4 : Pos} {d : D} {rest : List Stmt} {b0 : Stmt} {t : TS} {x : Str}
theorem qs_ret (h : QT X c tt i a b) : QS X [.Return (some (.IfExp c (.Constant (.str s1) j1 p1) (.Constant (.str s2) j2 p2) p3)) p4] (tRet (tIf tt (tC (.str s1)) (tC (.str s2)))) i a (.str (if b then s1 else s2)) :=
  ⟨pss_one (ps_ret (pe_ifExp h.pt pe_str pe_str)), fun B σ H De hi sb q => h.ev σ H _ hi (by
    cases b with
    | true => exact iteT (q _ B H (Fit.refl sb) (.str s1))
    | false => exact iteF (q _ B H (Fit.refl sb) (.str s2)))⟩
theorem qs_retE (h : QE X e te i a b) : QS X [.Return (some e) p4] (tRet te) i a (.bl b) :=
  ⟨pss_one (ps_ret h.pe), fun B σ H De hi sb q => h.ev σ H _ hi (q _ B H (Fit.refl sb) (.bl b))⟩
/-- y = e; return s1 if c and not y else s2 -/
theorem qs_two {b1 : Bool} {y : Str} {pos' q1 q2 q3 : Pos} (hij : j < i) (hN : X.N.Nodup) (hj : X.N[j]? = some y) (h : QE X e te i a b) (h1 : QT X c tt i a b1)
    (hx : Loc X.env.scope y := by first | exact .inl rfl | exact .inr rfl) (hs : swapsWith e (some (.Name y pos')) pos.line X.env = pure false := by rfl) (hf : X.fn y = true ∨ X.env.scope.names.lookup y = some .local := by first | exact .inl rfl | exact .inr rfl)
    (hv : Vis X.env.scope y := by first | exact Or.inl rfl | exact Or.inr (Or.inl rfl) | exact Or.inr (Or.inr rfl)) (hd : (y == ("__debug__" : Str)) = false := by decide) (hcd : (y == ("__classdict__" : Str)) = false := by decide) :
    QS X [.Assign [.Name y pos'] e pos, .Return (some (.IfExp (.BoolOp .And [c, .UnaryOp .Not (.Name y q1) q2] q3) (.Constant (.str s1) j1 p1) (.Constant (.str s2) j2 p2) p3)) p4]
      (tSeq (tAsg te (gName j)) (tRet (tIf (tAnd tt (tNot (tB (tVar j)))) (tC (.str s1)) (tC (.str s2))))) i a (.str (if b1 && !b then s1 else s2)) :=
  ⟨pss_cons (ps_set hN hj hx h.pe hs hf) (pss_one (ps_ret (pe_ifExp (pw_and h1.pt (pw_and1 (pt_not (pt_val (pe_var hj hv hd hcd) (by intro _; rfl))))).pt pe_str pe_str))), fun B σ H De hi sb q => h.ev σ H _ hi (by
    have hl : j < σ.length := Nat.lt_trans hij (List.getElem?_eq_some_iff.mp hi).1
    have hi' : (σ.set j (some (.bl b)))[i]? = some (some (.ref a)) := by rw [List.getElem?_set_ne (Nat.ne_of_lt hij)]; exact hi
    refine h1.ev _ H _ hi' ?_
    cases b1 with
    | false => exact iteF (iteF (q _ B H (Fit.refl sb) (.str s2)))
    | true =>
      refine iteT ⟨.bl b, List.getElem?_set_self hl, b, rfl, ?_⟩
      cases b with
      | true => exact iteF (q _ B H (Fit.refl sb) (.str s2))
      | false => exact iteT (q _ B H (Fit.refl sb) (.str s1)))⟩
end
end Rf
set_option Elab.async false
set_option linter.all false
set_option maxRecDepth 100000
set_option maxHeartbeats 4000000
namespace Rf
open PySem L2 PySem.Spec PyProof.Rows

/-! ## several clauses 'except X as n', all with the same name n (slot i) -/
abbrev Cls := List (Value × (Addr → Value → Option Addr → TS))
def wNam (K : Fg) (i : Nat) (Wo : WX) (De : Ends) : Cls → WX
  | [] => Wo
  | (c, ts) :: r => fun cls d σ H => ∃ b, PySem.W.exmOne K cls c = some b ∧
      (b = true → ∀ a, H a = none → ts a cls d { nx := fun σ' H' => De.nx (σ'.set i none) H', rt := De.rt, bk := fun σ' H' => De.bk (σ'.set i none) H', ct := fun σ' H' => De.ct (σ'.set i none) H' } (σ.set i (some (.ref a))) H) ∧
      (b = false → wNam K i Wo De r cls d σ H)
inductive HdN (X : Cx) (n : Str) : List ExceptHandler → Cls → Prop
  | nil : HdN X n [] []
  | cons {x : Str} {c : Value} {ts : Addr → Value → Option Addr → TS} {b0 : Stmt} {suite : List Stmt} {np ps : Pos} {hds : List ExceptHandler} {l : Cls} (hc : Names X x c)
      (hsu : ∀ (a : Addr) (oe : Obj) (cls : Value) (d : Option Addr) (pn : List (Addr × Obj)), Zc cls d oe → (∃ vs, oe.data = .fields vs) → PSs (X.suite a ((a, oe) :: pn)) (b0 :: suite) (ts a cls d)) (r : HdN X n hds l) :
      HdN X n (.ExceptHandler (some (.Name x np)) (some n) (b0 :: suite) ps :: hds) ((c, ts) :: l)
section
variable {X : Cx} {n : Str} {i : Nat} {body : List Stmt} {hz : ExceptHandler} {hds : List ExceptHandler} {l : Cls} {pos : Pos} {tb : WX → TS} {Wo : WX}
theorem ps_tryN (hstk : X.stack = X.env :: X.outer) (hfrm : X.env.frame = some X.env.locals) (hnod : X.N.Nodup) (hslot : X.N[i]? = some n) (hloc : X.env.kindOf n = some .local) (tk : Takes X Wo)
    (hbody : ∀ (W' : WX) (pn : List (Addr × Obj)) (xe : Value → Shared → Prop), Takes (X.tr pn xe) W' → PassesOwn (model X.prog X.w) X.A X.env xe → PSs (X.tr pn xe) body (tb W'))
    (hh : HdN X n (hz :: hds) l) : PS X (.Try body (hz :: hds) [] [] pos) (fun De σ H => tb (wNam X.K i Wo De l) De σ H) := by
  refine ⟨fun pq s0 σ0 H0 De I0 h0 => ?_⟩
  have okX := I0.ok
  have frX : X.A.frames = some (X.env :: X.outer) := by rw [okX.frames, hstk]
  have locX : Loc X.env.scope n := .inl hloc
  refine wpAny_Try_except ?_
  refine wpAny_mono ((hbody (wNam X.K i Wo De l) (X.pn ++ pq) (fun e s1 => wpAny (model X.prog X.w) X.A (noteFrame e X.env) (fun _ s2 => wpAny (model X.prog X.w) X.A (setFlight e none) (fun _ s3 =>
      wpAny (model X.prog X.w) X.A (handleBy e X.env (hz :: hds)) (SP X pq De) X.xe s3) X.xe s2) X.xe s1) (fun u s' xx => ?_) PassesOwn.looking).run [] s0 σ0 H0 De (I0.toTry _) h0) (fun f s1 hsp => ?_) (fun e s1 he => he)
  · obtain ⟨a, Bq, sI, pr, σ1, H1, cls, d, rfl, Jt, nbq, upq, skq, naq, osq, agq, wq⟩ := xx
    have Jq : Inv X pq σ1 H1 sI := Jt.ofTry okX
    have sk2 : Sky Bq (X.env :: X.outer) a (Zc cls d) X.env.locals s'.heap := by rw [← hstk]; exact skq
    show wpAny (model X.prog X.w) X.A (noteFrame (.ref a) X.env) _ _ _
    refine Sky.land Zc.steady frX hfrm sk2 fun hq flq up3 => ?_
    have J3 : Inv X pq σ1 H1 { s' with heap := hq } := Jq.landed nbq flq.1 (upq.trans up3) osq agq
    obtain ⟨oq, vq, heq, hzq, hdq⟩ := flq.there
    have away : ∀ {h : Heap} {o : Obj} {vs : Array Value}, h.FunFrames Bq (X.env :: X.outer) → h.get? a = some o → o.data = .fields vs → a ∉ frs (X.env :: X.outer) := fun {h o vs} ffq eq dq hm => by
      obtain ⟨_, o2, e2, hnf⟩ := ffq.mem hm
      rw [eq] at e2; cases e2
      exact hnf _ dq
    have aw := away flq.2.2.1 heq hdq
    have awL : a ≠ X.env.locals := fun z => aw (List.mem_filterMap.mpr ⟨X.env, List.mem_cons_self, by rw [hfrm, z]⟩)
    have awF : a ∉ X.fs := fun hm => by
      obtain ⟨ev, hev, qv⟩ := List.mem_filterMap.mp hm
      exact aw (List.mem_filterMap.mpr ⟨ev, List.mem_cons_of_mem _ hev, qv⟩)
    have SQ := J3.suite heq hdq naq awL awF
    have step : ∀ {hs2 : List ExceptHandler} {l2 : Cls}, HdN X n hs2 l2 → wNam X.K i Wo De l2 cls d σ1 H1 →
        wpAny (model X.prog X.w) X.A (handleBy (.ref a) X.env hs2) (SP X pq De) X.xe { s' with heap := hq } := by
      intro hs2 l2 hk
      induction hk with
      | nil =>
        intro w2
        refine wpAny_handleBy_nil ?_
        obtain ⟨k1, k2, k3, ow, vw, Tw, oTw, tw, hew, hzw, hdw, h1w, hrw⟩ := id flq
        unfold PySem.passOn
        refine wpAny_bind (wpAny_field hew hdw h1w ?_)
        rw [if_neg (show ¬ ((Value.ref Tw == Value.none) = true) from by simp)]
        have fin : wpAny (model X.prog X.w) X.A (setFlight (.ref a) X.env.frame) (fun _ s4 => wpAny (model X.prog X.w) X.A (throw (.ref a) : Sem Flow) (SP X pq De) X.xe s4) X.xe { s' with heap := hq } := by
          rw [hfrm]
          refine HandSPX.setFlight_upZ flq fun h4 hh4 up4 => wpAny_throw (tk _ _ ?_)
          exact ⟨a, Bq, sI, pq, σ1, H1, cls, d, rfl, Jq, nbq, (upq.trans up3).trans up4, .inr (.inr (by rw [hstk]; exact hh4)), naq, osq, agq, w2⟩
        first
          | exact wpAny_bind (wpAny_pure (wpAny_bind fin))
          | exact wpAny_bind fin
      | @cons x c ts b0 suite np ps hds2 l3 hc hsu r ih =>
        intro w2
        obtain ⟨b, hbx, hyes, hno⟩ := w2
        refine wpAny_handleBy_cons (codeAny_handlers_test ?_) (by intro q; cases q)
        have lkT : PySem.W.Looks (model X.prog X.w) hq (typeOf (.ref a)) cls := fun A Q E s k q => wpAny_typeOf_ref (k _ _ heq) (by rw [hzq.1]; exact q)
        have lkM := PySem.W.exm_one (M := model X.prog X.w) (J3.kIn) lkT hbx
        have tst : ∀ {Q : Value → Shared → Prop} {E : Value → Shared → Prop}, Q c { s' with heap := hq } → wpAny (model X.prog X.w) (X.A.mark (some (.ref a))) (eval (.Name x np) X.env) Q E { s' with heap := hq } := fun {Q E} q => by
          obtain ⟨hg, hdbg, hm | ⟨hm, hv, hnn⟩⟩ := hc
          · exact ld_glob (X := X.suite a ((a, oq) :: (X.pn ++ pq))) SQ hg hm q hdbg
          · exact ld_blt (X := X.suite a ((a, oq) :: (X.pn ++ pq))) SQ hg hm hv q hnn hdbg
        refine tst (lkM.here ?_)
        cases b with
        | true =>
          refine codeAny_handlers_suite_as ?_
          refine HandSPX.lands_againZ flq fun h4 fl4 up4 => ?_
          have J4 : Inv X pq σ1 H1 { s' with heap := h4 } := Jq.landed nbq fl4.1 ((upq.trans up3).trans up4) osq agq
          obtain ⟨o4, v4, he4, hz4, hd4⟩ := fl4.there
          have S4 := J4.suite he4 hd4 naq awL awF
          refine store_ok (X := X.suite a ((a, o4) :: (X.pn ++ pq))) (v := .ref a) S4 hnod hslot locX rfl (fun s5 S5 => ?_) (.inr hloc)
          refine wpAny_mono ((hsu a o4 cls d (X.pn ++ pq) hz4 ⟨_, hd4⟩).run [] s5 _ H1 _ S5 (hyes rfl a naq)) (fun f s6 hsp => ?_) (fun _ _ z => False.elim z)
          have ends : ∀ {σ6 : L2.St} {H6 : Hp} {Q : Shared → Prop}, Inv (X.suite a ((a, o4) :: (X.pn ++ pq))) [] σ6 H6 s6 → (∀ s7, Inv X pq (σ6.set i none) H6 s7 → Q s7) →
              wpAny (model X.prog X.w) X.A (do bindName X.env n .none; unbindBehindTheSuite X.env n ps) (fun _ s7 => Q s7) X.xe s6 := fun {σ6 H6 Q} S6 hq => gone_ok (S6.unsuite okX) hnod hslot hloc hq
          cases f with
          | next =>
            obtain ⟨σ6, H6, S6, q6⟩ := hsp
            exact ends S6 fun s7 J7 => ⟨_, _, J7, q6⟩
          | brk =>
            obtain ⟨σ6, H6, S6, q6⟩ := hsp
            exact ends S6 fun s7 J7 => ⟨_, _, J7, q6⟩
          | cont =>
            obtain ⟨σ6, H6, S6, q6⟩ := hsp
            exact ends S6 fun s7 J7 => ⟨_, _, J7, q6⟩
          | ret u =>
            obtain ⟨v6, σ6, H6, S6, r6, q6⟩ := hsp
            exact ends S6 fun s7 J7 => ⟨_, _, _, J7, r6, q6⟩
        | false =>
          show wpAny _ X.A (handleBy (.ref a) X.env hds2) _ _ _
          exact ih (hno rfl)
    exact step hh wq
  · cases f with
    | next =>
      obtain ⟨σ6, H6, J6, q6⟩ := hsp
      exact wpAny_execs_nil ⟨σ6, H6, J6.ofTry okX, q6⟩
    | brk =>
      obtain ⟨σ6, H6, J6, q6⟩ := hsp
      exact ⟨σ6, H6, J6.ofTry okX, q6⟩
    | cont =>
      obtain ⟨σ6, H6, J6, q6⟩ := hsp
      exact ⟨σ6, H6, J6.ofTry okX, q6⟩
    | ret u =>
      obtain ⟨v6, σ6, H6, J6, r6, q6⟩ := hsp
      exact ⟨v6, σ6, H6, J6.ofTry okX, r6, q6⟩

/-- what the clauses wish is met, for the exception ce that the table hd answers -/
def Met (K : Fg) (i : Nat) (cls : Value) (dd : Option Addr) (H : Hp) (r : Option D) : Cls → Prop
  | [] => r = none
  | (c, ts) :: rest => (PySem.W.exmOne K cls c = some false ∧ Met K i cls dd H r rest) ∨ (PySem.W.exmOne K cls c = some true ∧ ∃ d, r = some d ∧
      ∀ (a : Addr) (σ : L2.St) (B : Hp) (De : Ends), σ[i]? = some (some (.ref a)) → Same B H → (∀ v B' H', Fit B H B' H' → Dq K B' v d → De.rt v H') → ts a cls dd De σ H)
theorem sn_tryN {K : Fg} {mg : Str → Option Value} {ab : AS} {hd : Xc → Option (Option D)} (hb : ∀ W', SnS K mg W' (tb W') ab)
    (hw : ∀ ce cls dd Bx H r, Xis K mg ce cls dd Bx → hd ce = some r → Met K i cls dd H r l) : SnS K mg Wo (fun De σ H => tb (wNam K i Wo De l) De σ H) (aTry i ab hd) := fun B0 H0 E σ B H rp o z De q => by
  unfold aTry at z
  cases y : ab E with
  | none => rw [y] at z; cases z
  | some o1 =>
    rw [y] at z
    refine hb _ B0 H0 E σ B H rp o1 y De ?_
    cases o1 with
    | nx E1 => cases z; exact q
    | rt d => cases z; exact q
    | bk E1 => cases z; exact q
    | ct E1 => cases z; exact q
    | rw d E1 => cases z; exact q
    | er ce E1 =>
      dsimp only at z
      intro cls dd σ1 B1 H1 hx r1
      cases y2 : hd ce with
      | none => rw [y2] at z; cases z
      | some r =>
        rw [y2] at z
        have hm := hw ce cls dd B1 H1 r hx y2
        clear hw
        induction l with
        | nil =>
          cases hm
          cases z
          exact q cls dd σ1 B1 H1 hx r1
        | cons p rest ih =>
          obtain ⟨c, ts⟩ := p
          rcases hm with ⟨h1, h2⟩ | ⟨h1, d, rfl, h2⟩
          · exact ⟨false, h1, fun h => (nomatch h), fun _ => ih h2⟩
          · dsimp only at z
            split at z
            · rename_i hl
              cases z
              exact ⟨true, h1, fun _ a ha => h2 a _ B1 _ (List.getElem?_set_self (by rw [← r1.len]; exact hl)) r1.bh fun v B' H' f' h' => q v B' H' (r1.fit.trans f') h', fun h => (nomatch h)⟩
            · cases z
theorem gs_tryN {ab : AS} {hd : Xc → Option (Option D)} (hstk : X.stack = X.env :: X.outer) (hfrm : X.env.frame = some X.env.locals) (hex : X.ex = []) (hnod : X.N.Nodup) (hslot : X.N[i]? = some n) (hloc : X.env.kindOf n = some .local) (tk : Takes X Wo)
    (hbody : ∀ (W' : WX) (pn : List (Addr × Obj)) (xe : Value → Shared → Prop), Takes (X.tr pn xe) W' → PassesOwn (model X.prog X.w) X.A X.env xe → GSs (X.tr pn xe) W' body (tb W') ab)
    (hh : HdN X n (hz :: hds) l) (hw : ∀ ce cls dd Bx H r, Xis X.K X.mg ce cls dd Bx → hd ce = some r → Met X.K i cls dd H r l) :
    GS X Wo (.Try body (hz :: hds) [] [] pos) (fun De σ H => tb (wNam X.K i Wo De l) De σ H) (aTry i ab hd) :=
  ⟨ps_tryN hstk hfrm hnod hslot hloc tk (fun W' pn xe t p => (hbody W' pn xe t p).ps) hh, sn_tryN (fun W' => by
    obtain ⟨xe, t, p⟩ := any_takes hstk hfrm hex W'
    exact (hbody W' [] xe t p).sn) hw⟩
end
end Rf
set_option Elab.async false
set_option linter.all false
set_option maxRecDepth 100000
set_option maxHeartbeats 4000000
namespace Rf
open PySem L2

/-! ## the clauses of the laws: each suite hands back a value that rests on the exception's class alone -/
abbrev Gs := List (Str × (Addr → Str → TS) × (Str → D))
def tsOf (ca : Str → Addr) (cl : List Str) (t : Addr → Str → TS) (a : Addr) (cls : Value) (d : Option Addr) : TS := fun De σ H => ∃ x : Str, (x ∈ cl ∧ cls = .ref (ca x) ∧ d = none) ∧ t a x De σ H
def clsOf (ca : Str → Addr) (cl : List Str) (g : Gs) : Cls := g.map fun p => (.ref (ca p.1), tsOf ca cl p.2.1)
def hdOf : List (Str × (Str → D)) → Str → Option D
  | [], _ => none
  | (c, g) :: r, x => if subX x c then some (g x) else hdOf r x
def hdX (cl : List Str) (g : List (Str × (Str → D))) : Xc → Option (Option D)
  | .own x => if x ∈ cl then some (hdOf g x) else none
  | .line _ => none
inductive HdS (X : Cx) (n : Str) (i : Nat) (ca : Str → Addr) (cl : List Str) : List ExceptHandler → Gs → Prop
  | nil : HdS X n i ca cl [] []
  | cons {y : Str} {t : Addr → Str → TS} {g : Str → D} {b0 : Stmt} {suite : List Stmt} {np ps : Pos} {hds : List ExceptHandler} {l : Gs} (hy : y ∈ cl) (hg : Gl X y) (hdb : (y == ("__debug__" : Str)) = false)
      (hq : ∀ (a : Addr) (x : Str) (hx : x ∈ cl) (oe : Obj) (pn : List (Addr × Obj)), Zc (.ref (ca x)) none oe → (∃ vs, oe.data = .fields vs) → QS (X.suite a ((a, oe) :: pn)) (b0 :: suite) (t a x) i a (g x)) (r : HdS X n i ca cl hds l) :
      HdS X n i ca cl (.ExceptHandler (some (.Name y np)) (some n) (b0 :: suite) ps :: hds) ((y, t, g) :: l)
section
variable {X : Cx} {n : Str} {i : Nat} {ca : Str → Addr} {cl : List Str} {hds : List ExceptHandler} {l : Gs}
theorem HdS.nam (xt : XT X.K X.mg ca cl) (h : HdS X n i ca cl hds l) : HdN X n hds (clsOf ca cl l) := by
  induction h with
  | nil => exact .nil
  | cons hy hg hdb hq r ih =>
    refine .cons ⟨hg, hdb, .inl (xt.ex _ hy).g⟩ (fun a oe cls d pn hz hf => ?_) ih
    refine pss_ex fun x hx => ?_
    obtain ⟨hx, rfl, rfl⟩ := hx
    exact (hq a x hx oe pn hz hf).ps
theorem HdS.met (xt : XT X.K X.mg ca cl) (h : HdS X n i ca cl hds l) {x : Str} (hx : x ∈ cl) {H : Hp} : Met X.K i (.ref (ca x)) none H (hdOf (l.map fun p => (p.1, p.2.2)) x) (clsOf ca cl l) := by
  induction h with
  | nil => rfl
  | @cons y t g b0 suite np ps hds l hy hg hdb hq r ih =>
    show Met X.K i _ none H (if subX x y then some (g x) else hdOf (l.map fun p => (p.1, p.2.2)) x) _
    cases e : subX x y with
    | false =>
      rw [if_neg (by simp)]
      exact .inl ⟨by rw [xt.exm x hx y hy, e], ih⟩
    | true =>
      rw [if_pos rfl]
      refine .inr ⟨by rw [xt.exm x hx y hy, e], g x, rfl, fun a σ B De hi sb q => ?_⟩
      exact ⟨x, ⟨hx, rfl, rfl⟩, (hq a x hx ⟨.ref (ca x), none, .fields #[], #[]⟩ [] ⟨rfl, rfl⟩ ⟨_, rfl⟩).ev B σ H De hi sb q⟩
theorem gs_tryS {W : WX} {body : List Stmt} {hz : ExceptHandler} {pos : Pos} {tb : WX → TS} {ab : AS} (xt : XT X.K X.mg ca cl) (hh : HdS X n i ca cl (hz :: hds) l) (tk : Takes X W)
    (hbody : ∀ (W' : WX) (pn : List (Addr × Obj)) (xe : Value → Shared → Prop), Takes (X.tr pn xe) W' → GSs (X.tr pn xe) W' body (tb W') ab)
    (hnod : X.N.Nodup) (hslot : X.N[i]? = some n) (hloc : X.env.kindOf n = some .local := by rfl) (hstk : X.stack = X.env :: X.outer := by rfl) (hfrm : X.env.frame = some X.env.locals := by rfl) (hex : X.ex = [] := by rfl) :
    GS X W (.Try body (hz :: hds) [] [] pos) (fun De σ H => tb (wNam X.K i W De (clsOf ca cl l)) De σ H) (aTry i ab (hdX cl (l.map fun p => (p.1, p.2.2)))) := by
  refine gs_tryN hstk hfrm hex hnod hslot hloc tk (fun W' pn xe t _ => hbody W' pn xe t) (hh.nam xt) fun ce cls dd Bx H r hx e => ?_
  unfold hdX at e
  cases ce with
  | line d => cases e
  | own x =>
    dsimp only at e
    split at e
    · rename_i hm
      cases e
      obtain ⟨h1, rfl⟩ := hx
      rw [(xt.ex x hm).g] at h1
      cases h1
      exact hh.met xt hm
    · cases e
end
theorem XT.sub {K : Fg} {mg : Str → Option Value} {ca : Str → Addr} {l l2 : List Str} (h : XT K mg ca l) (hl : ∀ x ∈ l2, x ∈ l) : XT K mg ca l2 :=
  ⟨fun x hx => h.ex x (hl x hx), fun x hx => h.c x (hl x hx), fun x hx y hy => h.kit x (hl x hx) y (hl y hy), fun x hx y hy => h.exm x (hl x hx) y (hl y hy), fun x hx => h.ve x (hl x hx)⟩
end Rf
set_option Elab.async false
set_option linter.all false
set_option maxRecDepth 100000
set_option maxHeartbeats 4000000
namespace Rf
open PySem L2

/-! ## the law's end -/
def spLw (K : Fg) (F : Fn) : Sp := fun vs H Q E => vs.length = 1 ∧ ∃ ds B d, Same B H ∧ DqAll K B vs ds ∧ F ds = some (.ok d) ∧ ∀ v B' H', Fit B H B' H' → Dq K B' v d → Q v H'
theorem lw_of {P : Program} {w : World} {K : Fg} {mg : Str → Option Value} {base : Heap} {k : Nat} {f : Addr} {fd : FuncData} {ps : List Str} {F : Fn} (h : FnOk P w K mg base (L2.CX P w) k f fd ps (spF K mg 1 F)) : FnOk P w K mg base (L2.CX P w) k f fd ps (spLw K F) :=
  h.imp fun vs H Q E ⟨hl, ds, B, d, sb, hd, e, q⟩ => ⟨hl, ds, B, sb, hd, by rw [e]; exact q⟩
theorem sp_end {K : Fg} {F : Fn} {H : Hp} {a : Addr} {ns : List Int} (hS : SqL K H a (ns.map V.int)) (h : F [.scr ns] = some (.ok (.bl true))) : spLw K F [.ref a] H (fun v _ => v = .bl true) fun _ _ _ => False :=
  ⟨rfl, [.scr ns], H, .bl true, fun _ _ e => e, .cons (.scr hS) .nil, h, fun v B' H' _ hq => by cases hq; rfl⟩
theorem cx_end {P : Program} {w : World} {H : Hp} {s s' : Shared} {e : Value} : L2.CX P w [] H s (fun _ _ _ => False) e s' → False := fun ⟨_, _, _, _, _, _, _, _, _, _, _, _, z⟩ => z

/-! ## the exception classes -/
structure XF (K : Fg) (mg : Str → Option Value) (x : Str) (C : Addr) : Prop where
  g : XG K mg x C
  c : ExcC K C
  ve : PySem.W.kitOne K (.ref C) (.type "ValueError") = some true
  ex : x ≠ "ParseError" → ExcAt K mg x C
def caOf (l : List (Str × Addr)) (x : Str) : Addr := (l.lookup x).getD 0
theorem look_mem {l : List (Str × Addr)} (nd : (l.map (·.1)).Nodup) {p : Str × Addr} (h : p ∈ l) : l.lookup p.1 = some p.2 := by
  induction l with
  | nil => cases h
  | cons q l ih =>
    rw [List.map_cons, List.nodup_cons] at nd
    rcases List.mem_cons.mp h with rfl | hl
    · simp [List.lookup]
    · have hne : (p.1 == q.1) = false := by
        rw [beq_eq_false_iff_ne]
        intro e
        exact nd.1 (e ▸ List.mem_map_of_mem hl)
      obtain ⟨q1, q2⟩ := q
      simp only [List.lookup]
      dsimp only at hne
      rw [hne]
      exact ih nd.2 hl
theorem xt_mk {K : Fg} {mg : Str → Option Value} (l : List (Str × Addr)) (nd : (l.map (·.1)).Nodup) (h : ∀ p ∈ l, XF K mg p.1 p.2) (hp : ∀ p ∈ l, ∀ q ∈ l, PySem.W.subIn K (.ref p.2) (.ref q.2) = some (subX p.1 q.1)) : XT K mg (caOf l) (l.map (·.1)) := by
  have hc : ∀ p ∈ l, caOf l p.1 = p.2 := fun p hm => by unfold caOf; rw [look_mem nd hm]; rfl
  refine ⟨fun x hx => ?_, fun x hx => ?_, fun x hx y hy => ?_, fun x hx y hy => ?_, fun x hx => ?_⟩
  · obtain ⟨p, hm, rfl⟩ := List.mem_map.mp hx
    rw [hc p hm]; exact (h p hm).g
  · obtain ⟨p, hm, rfl⟩ := List.mem_map.mp hx
    rw [hc p hm]; exact (h p hm).c
  · obtain ⟨p, hm, rfl⟩ := List.mem_map.mp hx
    obtain ⟨q, hq, rfl⟩ := List.mem_map.mp hy
    rw [hc p hm, hc q hq]
    unfold PySem.W.kitOne
    split
    · rename_i e
      have e1 : p.2 = q.2 := by simpa using e
      have := hp p hm q hq
      rw [e1] at this
      have h2 := hp q hq q hq
      rw [this] at h2
      rw [h2]
      simp [subX]
    · have hC := (h q hq).c
      obtain ⟨cd, hcd, _⟩ := PySem.W.any_some hC.hd
      have ht := (h q hq).g.ty
      show (if ((PySem.W.clsIn K q.2).isSome && PySem.W.typeIn K (.ref q.2) == some (.type "type")) = true then PySem.W.subIn K (.ref p.2) (.ref q.2) else none) = _
      rw [hcd, ht, if_pos (by rfl)]
      exact hp p hm q hq
  · obtain ⟨p, hm, rfl⟩ := List.mem_map.mp hx
    obtain ⟨q, hq, rfl⟩ := List.mem_map.mp hy
    rw [hc p hm, hc q hq]
    exact PySem.W.exm_ref (h q hq).c.hs (h q hq).c.hd (h q hq).g.ty (hp p hm q hq)
  · obtain ⟨p, hm, rfl⟩ := List.mem_map.mp hx
    rw [hc p hm]; exact (h p hm).ve
section
variable {K : Fg} {h : Heap} {mg : Str → Option Value} {x : Str} {C : Addr} (X : K.In h) (G : h.Ns mainGlobals mg) (a : PySem.W.nsIn K mainGlobals x = some (some (.ref C)))
    (sb : PySem.W.subIn K (.ref C) (.type "BaseException") = some true) (ty : PySem.W.typeIn K (.ref C) = some (.type "type")) (hg : PySem.W.findIn K (.ref C) "__getattribute__" = some (some (.builtin "BaseException.__getattribute__"))) (hk : PySem.W.findIn K (.ref C) "__getattr__" = some none)
    (hd : PySem.W.hasDictIn K C = true) (ha : PySem.W.findIn K (.ref C) "__class__" = some (some (.builtin "object.__class__"))) (hn : PySem.W.specialIn K (.builtin "object.__class__") "__get__" = some (some (.builtin "getset_descriptor.__get__")))
    (ht : PySem.W.takesIn K (.builtin "object.__class__") = some true) (hm : PySem.W.mroIn K C (.type "object") = some true) (ve : PySem.W.kitOne K (.ref C) (.type "ValueError") = some true)
include X G a sb ty hg hk hd ha hn ht hm ve
theorem xf_mk (xi : PySem.W.excIn K C veTail "ValueError.__new__" = true) (kp : PySem.W.keepIn K (.ref C) = true) : XF K mg x C :=
  ⟨⟨PySem.W.mg_of X G a, ty⟩, ⟨hg, hk, sb, hd, ha, hn, ht, hm⟩, ve, fun _ => ⟨PySem.W.mg_of X G a, xi, kp, sb, ty⟩⟩
theorem xf_mkP (e : x = "ParseError") : XF K mg x C :=
  ⟨⟨PySem.W.mg_of X G a, ty⟩, ⟨hg, hk, sb, hd, ha, hn, ht, hm⟩, ve, fun n => absurd e n⟩
end
end Rf
set_option Elab.async false
set_option linter.all false
set_option maxRecDepth 100000
set_option maxHeartbeats 4000000
set_option autoImplicit false
namespace Rf
open PySem L2 PySem.Spec PyProof.Rows

/-! ## enumerate of a tuple -/
theorem meets_enT (t : Addr) (items : Array Value) :
    Meets (Builtin.«enumerate.__new__» ⟨[.type "enumerate", .ref t], []⟩) (fun _ R s => s.heap.IsTuple t items ∧
      R (.ok (.ret (.ref (s.heap.push { cls := .type "tuple_iterator", data := .fields #[.ref t, .int 0 0] }).objs.size)))
        { s with heap := (s.heap.push { cls := .type "tuple_iterator", data := .fields #[.ref t, .int 0 0] }).push { cls := .type "enumerate", data := .fields #[.none, .bool false, .ref s.heap.objs.size, rawInt 0, .none, .none] } }) :=
  .of_wp fun prog w A R s hyp => by
    obtain ⟨hp, g, d, tk, os⟩ := s; obtain ⟨ht, hR⟩ := hyp
    have hsub := sub_enumerate
    have begin1 : ∀ {A' : Around} {E : Value → Shared → Prop} {Q : Value → Shared → Prop}, Q (.ref hp.objs.size) ⟨hp.push { cls := .type "tuple_iterator", data := .fields #[.ref t, .int 0 0] }, g, d, tk, os⟩ → wpAny (model prog w) A' (pyIter (.ref t)) Q E ⟨hp, g, d, tk, os⟩ :=
      fun q => (begins_tuple t items).iter prog w _ _ ⟨hp, g, d, tk, os⟩ _ ht q
    wp_walk using begin1
    refine wpAny_stack_any fun st => wpAny_pure ?_
    split
    · rename_i c _ _ _ _ _
      cases (c == Value.type "enumerate")
      · wp_walk using begin1
        exact ⟨_, rfl, hR⟩
      · wp_walk using begin1
        exact ⟨_, rfl, hR⟩
    · wp_walk using begin1
      exact ⟨_, rfl, hR⟩
theorem call_enT {prog : Program} {w : World} {A : Around} {E : Value → Shared → Prop} {s : Shared} {t : Addr} {items : Array Value} {Q : Value → Shared → Prop} (ht : s.heap.IsTuple t items)
    (hq : ∀ h', IsEnum h' (s.heap.objs.size + 1) s.heap.objs.size 0 .none → h'.IsTupleIter s.heap.objs.size t 0 → (∀ b o, s.heap.get? b = some o → h'.get? b = some o) → Q (.ref (s.heap.objs.size + 1)) { s with heap := h' }) :
    wpAny (model prog w) A (call (.type "enumerate") [.ref t]) Q E s := by
  refine callType_new F.called_enumerate (by decide) (F.typeCall_enumerate_1 _) (F.newCall_enumerate_1 _) (fun obj => F.args_object_init_2 obj _) F.entry_enumerate_new (meets_enT t items) ⟨ht, ?_⟩
  have size1 : (s.heap.push { cls := .type "tuple_iterator", data := .fields #[.ref t, .int 0 0] }).objs.size = s.heap.objs.size + 1 := Heap.size_push ..
  show _ ∧ _
  rw [size1]
  have isE : IsEnum ((s.heap.push { cls := .type "tuple_iterator", data := .fields #[.ref t, .int 0 0] }).push { cls := .type "enumerate", data := .fields #[.none, .bool false, .ref s.heap.objs.size, rawInt 0, .none, .none] }) (s.heap.objs.size + 1) s.heap.objs.size 0 .none := by
    have pushed := Heap.get?_push_size (s.heap.push { cls := .type "tuple_iterator", data := .fields #[.ref t, .int 0 0] }) (o := { cls := .type "enumerate", data := .fields #[.none, .bool false, .ref s.heap.objs.size, rawInt 0, .none, .none] }) rfl
    rw [size1] at pushed; exact pushed
  exact ⟨⟨_, isE, rfl⟩, hq _ isE ⟨_, Heap.get?_push_of_some _ (Heap.get?_push_size _ rfl), rfl, rfl⟩ fun b o x => Heap.get?_push_of_some _ (Heap.get?_push_of_some _ x)⟩
/-- the tuple at a as it stands at each turn, each item in a new pair -/
def IteT (K : Fg) (a : Addr) : It :=
  ⟨fun i H => ∃ (xs : List V) (x : V), SqT K H a xs ∧ xs[i]? = some x, fun i H v H' => ∃ T x, v = .ref T ∧ H T = none ∧ H' = upd H T (.tup [.int (i : Nat), x]) ∧ ∀ xs, SqT K H a xs → xs[i]? = some x, fun i H => ∃ xs : List V, SqT K H a xs ∧ xs.length = i⟩
theorem turn_enT {P : Program} {w : World} {K : Fg} {elts : List Expr} {kk : Nat} {tpos : Pos} (a e it : Addr) (hae : a ≠ e) (hai : a ≠ it) :
    Turn P w K (.Tuple elts kk tpos) (IteT K a) [e, it] e (fun i h => (∃ old, IsEnum h e it ((i : Nat) : Int) old) ∧ h.IsTupleIter it a i ∧ e ≠ it) where
  mem := by simp
  obj := fun i h st b hb => by
    obtain ⟨⟨old, he⟩, ⟨o, ho, hc, hd⟩, _⟩ := st
    have cs : b = e ∨ b = it := by simpa using hb
    rcases cs with z | z
    · rw [z]; exact ⟨_, he, fun v q => nomatch q⟩
    · rw [z]; exact ⟨o, ho, fun v q => by rw [hd] at q; cases q⟩
  keep := fun i h h' st k => let ⟨⟨old, he⟩, hi, hne⟩ := st; ⟨⟨old, k e (by simp) _ he⟩, hi.at fun o q => k it (by simp) o q, hne⟩
  item := by
    intro X hP hw hK hc i pins s σ H E I hf st hg
    subst hP hw hK
    obtain ⟨⟨old, he⟩, hit, hne⟩ := st
    obtain ⟨xs, x, hq, hx⟩ := hg
    obtain ⟨its, rv, p, hz⟩ := I.tuple hq
    obtain ⟨u, hu, ru⟩ := rv.get hx
    have hel : e < s.heap.objs.size := Heap.lt_size he
    have hil : it < s.heap.objs.size := by obtain ⟨_, q, _⟩ := hit; exact Heap.lt_size q
    have hu' : its.toArray[i]? = some u := by simpa using hu
    have hlt : i < its.toArray.size := by
      by_cases q : i < its.toArray.size
      · exact q
      · rw [Array.getElem?_eq_none (by omega)] at hu'; cases hu'
    have hh : X.A.in1.handled = none := I.ok.hd hc
    refine wpAny_pyNext_enum_itemD (Draws.tuple hh it a hai its.toArray) he ⟨hit, p⟩ hlt hne (by simp only [List.mem_cons, List.not_mem_nil, or_false, not_or]; exact ⟨hne, fun z => hae z.symm⟩) fun y h' tk hy ho hst hT hsz hk => ?_
    obtain ⟨hit', _⟩ := hst
    rw [hu'] at hy
    cases hy
    refine ⟨_, rfl, wpAny_letOwnedTupleGo_enum (s := { s with heap := h', toks := tk + 1 }) ho fun h'' he' sb => ?_⟩
    have hT2 : h''.get? s.heap.objs.size = some { cls := .type "tuple", data := .seq #[.int i tk, u] } := (sb.2 _ (Nat.ne_of_gt hel)).trans hT
    have new : ObjOk X.prog X.w (upd H s.heap.objs.size (.tup [.int (i : Nat), x])) h'' s.heap.objs.size (.tup [.int (i : Nat), x]) :=
      ⟨by show 2 ≤ sizeLine; decide, [.int i tk, u], .cons ⟨_, rfl⟩ (.cons ru .nil), ⟨_, hT2, rfl, _, rfl⟩⟩
    have I1 : Inv X pins σ (upd H s.heap.objs.size (.tup [.int (i : Nat), x])) { s with heap := h'', toks := tk + 1 } :=
      I.turnedNew (ch := [e, it]) (fun b ob hb q => (sb.2 b (fun z => hb (by simp [z]))).trans (hk b ob (fun z => hb (by simp [z])) (fun z => hb (by simp [z])) q)) hf (Nat.le_refl _) new
    refine ⟨.ref s.heap.objs.size, _, I1, rfl, ⟨_, x, rfl, I.hok.fresh (Nat.le_refl _), rfl, fun ys hy => by rw [I.tuple_inj hy hq]; exact hx⟩, ⟨⟨u, ?_⟩, hit'.at fun o q => (sb.2 it (Ne.symm hne)).trans q, hne⟩, fun b hb => ?_⟩
    · have up1 : ((i + 1 : Nat) : Int) = (i : Int) + 1 := by omega
      rw [up1]; exact he'
    · have hbl : b < s.heap.objs.size := by
        have cs : b = e ∨ b = it := by simpa using hb
        rcases cs with z | z
        · rw [z]; exact hel
        · rw [z]; exact hil
      rw [upd_ne (Nat.ne_of_lt hbl)]
      exact (hf b hb).1
  done := by
    intro X hP hw hK hc i pins s σ H E I hf st hg
    subst hP hw hK
    obtain ⟨⟨old, he⟩, hit, hne⟩ := st
    obtain ⟨xs, hq, hx⟩ := hg
    obtain ⟨its, rv, p, hz⟩ := I.tuple hq
    obtain ⟨f0, f1, f2, f3, f4, f5⟩ := hf it (by simp)
    have hl := rv.length
    have hh : X.A.in1.handled = none := I.ok.hd hc
    have hst : s.heap.IsTupleIter it a its.toArray.size ∧ s.heap.IsTuple a its.toArray := ⟨by
      have : its.toArray.size = i := by simp; omega
      rw [this]; exact hit, p⟩
    exact wpAny_pyNext_enum_endD (Draws.tuple hh it a hai its.toArray) he hst fun h' eb => ⟨rfl, I.turned (t' := s.toks) (fun b o hb q => eb b o hb q) f0 f1 f3 f4 f5⟩
  self := fun A i s Q E st h => let ⟨⟨_, he⟩, _⟩ := st; wpAny_pyIter_enum he h
def iEnumT (K : Fg) (ta : TA) : TI := fun σ H R => ta σ H fun vs H1 => ∃ a xs, vs = [.ref a] ∧ SqT K H1 a xs ∧ R (IteT K a) H1
theorem pi_enT {X : Cx} {e : Expr} {ta : TA} {p pos tpos : Pos} {elts : List Expr} {kk : Nat} (hg : Gl X "enumerate") (hm : X.mg "enumerate" = none) (ha : PA X [e] ta) (hs : starEach [e] X.env = [(false, eval e X.env)] := by rfl) :
    PI X (.Tuple elts kk tpos) (.Call (.Name "enumerate" p) [e] [] pos) (iEnumT X.K ta) := by
  refine ⟨fun pins s σ H R I hyp => ?_⟩
  refine Call_ (ld_blt I hg hm boot_enumerate (PyProof.Rows.callWith_type1 (thn (ha.run pos pins s σ H _ I hyp) fun us s1 ⟨vs, H1, I1, r1, q1⟩ => ?_) hs rfl))
  obtain ⟨a, xs, ex, hq, q⟩ := q1
  subst ex
  cases r1 with
  | cons r rr =>
    cases rr
    cases r
    obtain ⟨its, rv, pt, hz⟩ := I1.tuple hq
    have hal : a < s1.heap.objs.size := by obtain ⟨_, q2, _⟩ := pt; exact Heap.lt_size q2
    refine call_enT pt fun h' he hit hk => wpAny_pyIter_enum he ?_
    have I2 : Inv X pins σ H1 { s1 with heap := h' } := I1.kept (t' := s1.toks) hk
    refine ⟨s1.heap.objs.size + 1, [s1.heap.objs.size + 1, s1.heap.objs.size], _, _, H1, rfl, I2, turn_enT a (s1.heap.objs.size + 1) s1.heap.objs.size (Nat.ne_of_lt (Nat.lt_succ_of_lt hal)) (Nat.ne_of_lt hal), ⟨⟨.none, he⟩, hit, Nat.succ_ne_self _⟩, fun b hb => ?_, q⟩
    have cs : b = s1.heap.objs.size + 1 ∨ b = s1.heap.objs.size := by simpa using hb
    have hle : s1.heap.objs.size ≤ b := by
      rcases cs with z | z
      · rw [z]; exact Nat.le_add_right _ _
      · rw [z]; exact Nat.le_refl _
    exact I1.fpOk hle (I1.hok.fresh hle)
theorem walk_enT {K : Fg} {a : Addr} {xs : List V} : Walk (IteT K a) xs.length (fun H => SqT K H a xs) (YPair (fun i => some (.int (i : Nat))) (fun i => xs[i]?)) := by
  refine ⟨fun i _ hi q => ⟨xs, xs[i], q, by simp [hi]⟩, fun _ q => ⟨xs, q, rfl⟩, fun i H v H' _ q y => ?_⟩
  obtain ⟨T, x, h1, h2, h3, h4⟩ := y
  exact ⟨T, .int (i : Nat), x, h1, h2, h3, rfl, h4 xs q⟩
end Rf
set_option Elab.async false
set_option linter.all false
set_option maxRecDepth 100000
set_option maxHeartbeats 4000000
set_option autoImplicit false
namespace Rf
open PySem L2 PySem.W

/-! ## enumerate and zip, walked -/
def enD (ds : List D) : List D := ds.mapIdx fun i d => .tup [.int (i : Nat), d]
def zipD (xs ys : List D) : List D := (xs.zip ys).map fun p => .tup [p.1, p.2]
theorem enD_len (ds : List D) : (enD ds).length = ds.length := by simp [enD]
theorem pair_new {K : Fg} {B H : Hp} {T : Addr} {x y : V} {d e : D} (s : Same B H) (hT : H T = none) (hx : Dq K B x d) (hy : Dq K B y e) : ∃ B'', Fit B H B'' (upd H T (.tup [x, y])) ∧ Dq K B'' (.ref T) (.tup [d, e]) :=
  ⟨_, Fit.new s hT, .tup upd_same (.cons (hx.mono (same_new (s.free hT))) (.cons (hy.mono (same_new (s.free hT))) .nil))⟩
def aiEnT (aa : AA) : AA := fun E => match aa E with
  | some [.tup ds] => if ds.length ≤ 100000 then some (enD ds) else none
  | _ => none
def aiEnL (aa : AA) : AA := fun E => match aa E with
  | some [.lst ds] => if ds.length ≤ 100000 then some (enD ds) else none
  | _ => none
def aiZip (aa : AA) : AA := fun E => match aa E with
  | some [.tup xs, .tup ys] => if xs.length ≤ 100000 then some (zipD xs ys) else none
  | some [.lst xs, .lst ys] => if xs.length ≤ 100000 then some (zipD xs ys) else none
  | _ => none
theorem wk_en {K : Fg} {B1 : Hp} {vs : List V} {ds : List D} (h : DqAll K B1 vs ds) : ∀ i B' H' x H'' d, Same B1 B' → Same B' H' → (enD ds)[i]? = some d → YPair (fun i => some (.int (i : Nat))) (fun i => vs[i]?) i H' x H'' → ∃ B'', Fit B' H' B'' H'' ∧ Dq K B'' x d := fun i B' H' x H'' d s s' e y => by
  obtain ⟨T, u, v, rfl, hT, rfl, h1, h2⟩ := y
  unfold enD at e
  rw [List.getElem?_mapIdx] at e
  cases z : ds[i]? with
  | none => rw [z] at e; cases e
  | some w =>
    rw [z] at e
    cases e
    obtain ⟨v', e3, q⟩ := h.get z
    dsimp only at h1 h2
    rw [h2] at e3
    cases e3
    cases h1
    exact pair_new s' hT (.int _) (q.mono s)
theorem wk_zip {K : Fg} {B1 : Hp} {vs us : List V} {ds es : List D} (h : DqAll K B1 vs ds) (h' : DqAll K B1 us es) : ∀ i B' H' x H'' d, Same B1 B' → Same B' H' → (zipD ds es)[i]? = some d → YPair (fun i => vs[i]?) (fun i => us[i]?) i H' x H'' → ∃ B'', Fit B' H' B'' H'' ∧ Dq K B'' x d := fun i B' H' x H'' d s s' e y => by
  obtain ⟨T, u, v, rfl, hT, rfl, h1, h2⟩ := y
  unfold zipD at e
  rw [List.getElem?_map] at e
  cases z : (ds.zip es)[i]? with
  | none => rw [z] at e; cases e
  | some w =>
    rw [z] at e
    cases e
    obtain ⟨z1, z2⟩ := List.getElem?_zip_eq_some.mp z
    obtain ⟨v1, e3, q1⟩ := h.get z1
    obtain ⟨v2, e4, q2⟩ := h'.get z2
    dsimp only at h1 h2
    rw [h1] at e3
    rw [h2] at e4
    cases e3
    cases e4
    exact pair_new s' hT (q1.mono s) (q2.mono s)
section
variable {X : Cx} {e e2 : Expr} {ta : TA} {aa : AA} {pos p tpos : Pos} {elts : List Expr} {kk : Nat}
theorem dq1 {K : Fg} {B : Hp} {vs : List V} {d : D} (h : DqAll K B vs [d]) : ∃ v, vs = [v] ∧ Dq K B v d := by
  cases h with
  | cons h1 h2 => cases h2; exact ⟨_, rfl, h1⟩
theorem gi_enumT (hg : Gl X "enumerate") (hm : X.mg "enumerate" = none) (ha : GA X [e] ta aa) (hs : starEach [e] X.env = [(false, eval e X.env)] := by rfl) :
    GI X (.Tuple elts kk tpos) (.Call (.Name "enumerate" p) [e] [] pos) (iEnumT X.K ta) (aiEnT aa) := ⟨pi_enT hg hm ha.pa hs, fun B0 H0 E σ B H rp ds z R q => by
  unfold aiEnT at z
  split at z
  · rename_i ds' y
    split at z
    · cases z
      refine ha.sn B0 H0 E σ B H rp _ y _ fun vs B1 H1 f1 h1 => ?_
      obtain ⟨v, rfl, h2⟩ := dq1 h1
      cases h2 with
      | tup hb hd =>
        refine ⟨_, _, rfl, SqT.of (f1.bh _ _ hb), q _ _ _ B1 H1 f1 ⟨?_, fun H' s => SqT.of (K := X.K) (s _ _ hb), wk_en hd⟩⟩
        rw [enD_len, ← hd.length]
        exact walk_enT
    · cases z
  · (cases z), fun E ds z => by
  unfold aiEnT at z
  split at z
  · split at z
    · cases z; rw [enD_len]; assumption
    · cases z
  · cases z⟩
theorem gi_enumL (hg : Gl X "enumerate") (hm : X.mg "enumerate" = none) (ha : GA X [e] ta aa) (hs : starEach [e] X.env = [(false, eval e X.env)] := by rfl) :
    GI X (.Tuple elts kk tpos) (.Call (.Name "enumerate" p) [e] [] pos) (iEnum X.K ta) (aiEnL aa) := ⟨pi_enum hg hm ha.pa hs, fun B0 H0 E σ B H rp ds z R q => by
  unfold aiEnL at z
  split at z
  · rename_i ds' y
    split at z
    · cases z
      refine ha.sn B0 H0 E σ B H rp _ y _ fun vs B1 H1 f1 h1 => ?_
      obtain ⟨v, rfl, h2⟩ := dq1 h1
      cases h2 with
      | lst hb hd =>
        refine ⟨_, _, rfl, SqL.of (f1.bh _ _ hb), q _ _ _ B1 H1 f1 ⟨?_, fun H' s => SqL.of (K := X.K) (s _ _ hb), wk_en hd⟩⟩
        rw [enD_len, ← hd.length]
        exact walk_enum
    · cases z
  · (cases z), fun E ds z => by
  unfold aiEnL at z
  split at z
  · split at z
    · cases z; rw [enD_len]; assumption
    · cases z
  · cases z⟩
theorem zipD_len {xs ys : List D} (h : xs.length ≤ 100000) : (zipD xs ys).length ≤ 100000 := by
  unfold zipD
  rw [List.length_map, List.length_zip]
  omega
theorem walk_zipT {K : Fg} {a b : Addr} {xs ys : List V} {n : Nat} (hn : n = min xs.length ys.length) : Walk (RZ.ItzT K a b) n (fun H => SqT K H a xs ∧ SqT K H b ys) (YPair (fun i => xs[i]?) (fun i => ys[i]?)) := by
  subst hn
  refine ⟨fun i _ hi q => ?_, fun _ q => ⟨xs, ys, q.1, q.2, by omega⟩, fun i H v H' _ q y => ?_⟩
  · have l1 : i < xs.length := by omega
    have l2 : i < ys.length := by omega
    exact ⟨xs, ys, xs[i], ys[i], q.1, q.2, by simp [l1], by simp [l2]⟩
  · obtain ⟨T, x, z, k1, k2, k3, k4, k5⟩ := y
    exact ⟨T, x, z, k1, k2, k3, k4 xs q.1, k5 ys q.2⟩
theorem gi_zip (hg : Gl X "zip") (hm : X.mg "zip" = none) (ha : GA X [e, e2] ta aa) (hs : starEach [e, e2] X.env = (false, eval e X.env) :: starEach [e2] X.env := by rfl) (hpl : (backTo pos (starEach [e2] X.env)).any (·.1) = false := by rfl) :
    GI X (.Tuple elts kk tpos) (.Call (.Name "zip" p) [e, e2] [] pos) (RZ.iZipA X.K ta) (aiZip aa) := ⟨RZ.pi_zipA hg hm ha.pa hs hpl, fun B0 H0 E σ B H rp ds z R q => by
  unfold aiZip at z
  split at z
  · rename_i xs ys y
    split at z
    · cases z
      refine ha.sn B0 H0 E σ B H rp _ y _ fun vs B1 H1 f1 h1 => ?_
      obtain ⟨v, u, rfl, h2, h3⟩ := dq2 h1
      cases h2 with
      | tup hb hd =>
        cases h3 with
        | tup hb3 hd3 =>
          refine ⟨_, _, _, _, rfl, .inr ⟨SqT.of (f1.bh _ _ hb), SqT.of (f1.bh _ _ hb3), q _ _ _ B1 H1 f1 ⟨walk_zipT ?_, fun H' s => ⟨SqT.of (K := X.K) (s _ _ hb), SqT.of (K := X.K) (s _ _ hb3)⟩, wk_zip hd hd3⟩⟩⟩
          unfold zipD
          rw [List.length_map, List.length_zip, hd.length, hd3.length]
    · cases z
  · rename_i xs ys y
    split at z
    · cases z
      refine ha.sn B0 H0 E σ B H rp _ y _ fun vs B1 H1 f1 h1 => ?_
      obtain ⟨v, u, rfl, h2, h3⟩ := dq2 h1
      cases h2 with
      | lst hb hd =>
        cases h3 with
        | lst hb3 hd3 =>
          refine ⟨_, _, _, _, rfl, .inl ⟨SqL.of (f1.bh _ _ hb), SqL.of (f1.bh _ _ hb3), q _ _ _ B1 H1 f1 ⟨walk_zip ?_, fun H' s => ⟨SqL.of (K := X.K) (s _ _ hb), SqL.of (K := X.K) (s _ _ hb3)⟩, wk_zip hd hd3⟩⟩⟩
          unfold zipD
          rw [List.length_map, List.length_zip, hd.length, hd3.length]
    · cases z
  · (cases z), fun E ds z => by
  unfold aiZip at z
  split at z
  · split at z
    · cases z; apply zipD_len; assumption
    · cases z
  · split at z
    · cases z; apply zipD_len; assumption
    · cases z
  · cases z⟩
end

/-! ## min, max of one list or tuple; sorted: data of one kind -/
def dlt (x y : D) : Bool := dataLt (toPy x) (toPy y)
def kin (ds : List D) : Bool := pls ds 8 && ds.all (fun x => ds.all fun y => alike (toPy x) (toPy y)) && ds.all (fun x => !isNon x)
def minF (x : D) (xs : List D) : D := xs.foldl (fun a y => if dlt y a then y else a) x
def dMinP : List D → Option D
  | [.lst (x :: xs)] => if kin (x :: xs) then some (minF x xs) else none
  | [.tup (x :: xs)] => if kin (x :: xs) then some (minF x xs) else none
  | _ => none
mutual
theorem toPy_inj : ∀ (x y : D) (n : Nat), pl x n = true → pl y n = true → toPy x = toPy y → x = y
  | .non, y, _, _, hy, e => by cases y <;> simp_all [toPy, pl]
  | .bl _, y, _, _, hy, e => by cases y <;> simp_all [toPy, pl]
  | .int _, y, _, _, hy, e => by cases y <;> simp_all [toPy, pl]
  | .str _, y, _, _, hy, e => by cases y <;> simp_all [toPy, pl]
  | .lst xs, y, n, hx, hy, e => by
    cases y with
    | lst ys =>
      cases n with
      | zero => rw [pl] at hx; cases hx
      | succ n =>
        rw [pl] at hx hy
        rw [toPy, toPy] at e
        rw [toPys_inj xs ys n hx hy (PyData.list.inj e)]
    | scr _ => rw [pl] at hy; cases hy
    | _ => simp [toPy] at e
  | .tup xs, y, n, hx, hy, e => by
    cases y with
    | tup ys =>
      cases n with
      | zero => rw [pl] at hx; cases hx
      | succ n =>
        rw [pl] at hx hy
        rw [toPy, toPy] at e
        rw [toPys_inj xs ys n hx hy (PyData.tuple.inj e)]
    | _ => simp [toPy] at e
  | .scr _, _, _, hx, _, _ => by rw [pl] at hx; cases hx
  | .obj _, _, _, hx, _, _ => by rw [pl] at hx; cases hx
theorem toPys_inj : ∀ (xs ys : List D) (n : Nat), pls xs n = true → pls ys n = true → toPys xs = toPys ys → xs = ys
  | [], ys, _, _, _, e => by cases ys <;> simp_all [toPys]
  | x :: xs, ys, n, hx, hy, e => by
    cases ys with
    | nil => simp [toPys] at e
    | cons y ys =>
      rw [pls, Bool.and_eq_true] at hx hy
      rw [toPys, toPys] at e
      rw [toPy_inj x y n hx.1 hy.1 (List.cons.inj e).1, toPys_inj xs ys n hx.2 hy.2 (List.cons.inj e).2]
end
theorem pls_at : ∀ {ds : List D} {n : Nat} {d : D}, pls ds n = true → d ∈ ds → pl d n = true
  | x :: xs, n, d, h, hm => by
    rw [pls, Bool.and_eq_true] at h
    rcases List.mem_cons.mp hm with rfl | hm
    · exact h.1
    · exact pls_at h.2 hm
theorem toPy_min (x : D) (xs : List D) : toPy (minF x xs) = minD (toPy x) (toPys xs) := by
  unfold minF minD
  rw [toPys_map]
  induction xs generalizing x with
  | nil => rfl
  | cons y ys ih =>
    rw [List.foldl_cons, List.map_cons, List.foldl_cons, ih]
    unfold dlt
    split <;> rfl
theorem minF_mem (x : D) (xs : List D) : minF x xs ∈ x :: xs := by
  unfold minF
  induction xs generalizing x with
  | nil => simp
  | cons y ys ih =>
    rw [List.foldl_cons]
    have := ih (if dlt y x then y else x)
    rcases List.mem_cons.mp this with h | h
    · rw [h]; split <;> simp
    · exact List.mem_cons_of_mem _ (List.mem_cons_of_mem _ h)
theorem kin_of {ds : List D} (h : kin ds = true) : pls ds 8 = true ∧ AlikeAll (toPys ds) := by
  unfold kin at h
  rw [Bool.and_eq_true, Bool.and_eq_true] at h
  obtain ⟨⟨h1, h2⟩, h3⟩ := h
  refine ⟨h1, fun x hx y hy => ?_, fun x hx => ?_⟩
  · rw [toPys_map] at hx hy
    obtain ⟨a, ha, rfl⟩ := List.mem_map.mp hx
    obtain ⟨b, hb, rfl⟩ := List.mem_map.mp hy
    exact List.all_eq_true.mp (List.all_eq_true.mp h2 a ha) b hb
  · rw [toPys_map] at hx
    obtain ⟨a, ha, rfl⟩ := List.mem_map.mp hx
    have := List.all_eq_true.mp h3 a ha
    have hp := pls_at h1 ha
    cases a <;> simp_all [toPy, isNon, pl]
def rMinP (K : Fg) : List V → Hp → VK → Prop := fun vs H Q => ∃ (a : Addr) (xs : List V) (d : PyData) (ds : List PyData), vs = [.ref a] ∧ (SqL K H a xs ∨ SqT K H a xs) ∧ DpAll K H xs (d :: ds) ∧ AlikeAll (d :: ds) ∧ PyData.depthAll (d :: ds) ≤ 8 ∧
  ∀ (i : Nat) (v : V), xs[i]? = some v → (d :: ds)[i]? = some (minD d ds) → Q v H
theorem vals_get {xs : List V} {us : List Value} (h : Vals xs us) {i : Nat} {u : Value} (e : us[i]? = some u) : ∃ v, xs[i]? = some v ∧ RelV v u := by
  induction h generalizing i with
  | nil => cases e
  | cons r h ih =>
    cases i with
    | zero => cases e; exact ⟨_, rfl, r⟩
    | succ i => exact ih e
theorem dpAll_get {K : Fg} {H : Hp} {xs : List V} {ds : List PyData} (h : DpAll K H xs ds) {i : Nat} {v : V} (e : xs[i]? = some v) : ∃ d, ds[i]? = some d ∧ Dp K H v d := by
  induction xs generalizing ds i with
  | nil => cases e
  | cons x xs ih =>
    cases h with
    | cons h1 h2 =>
      cases i with
      | zero => cases e; exact ⟨_, rfl, h1⟩
      | succ i => exact ih h2 e
theorem cr_minP {X : Cx} (hc : X.calm = true) (hu : X.A.units + 64 < cLine) : CallR X (.builtin "min") (rMinP X.K) := by
  intro pins s σ H vs us Q I r h
  obtain ⟨a, xs, d, ds, rfl, hs, hd, hal, hdep, q⟩ := h
  rw [Vals.ref1 r]
  have key : ∀ (its : List Value), Vals xs its → ∀ (i : Nat) (v : Value) (h' : Heap) (tk : Nat) (bs : List Addr), its.toArray[i]? = some v → Reads h' v (minD d ds) bs → (∀ b o, s.heap.get? b = some o → h'.get? b = some o) → EP X pins σ Q v { s with heap := h', toks := tk } := by
    intro its rv i v h' tk bs hv hr hk
    have I2 := I.kept (t' := tk) hk
    obtain ⟨x, hx, rx⟩ := vals_get rv (by simpa using hv)
    obtain ⟨e, he, hp⟩ := dpAll_get hd hx
    obtain ⟨cs, hr2⟩ := Dp.reads I2 e x v hp rx
    have := (Reads.unique hr e cs hr2).1
    subst this
    exact ⟨x, H, I2, rx, q i x hx he⟩
  have hub : X.A.units + 1 + PyData.depthAll (d :: ds) < cLine := by omega
  rcases hs with hs | hs
  · obtain ⟨its, rv, hl, hz⟩ := I.list hs
    obtain ⟨as, hra⟩ := Dp.readsAll I (d :: ds) _ its hd rv
    exact min_list_data (I.ok.hd hc) hl.isList (by simpa using hra) hal hub fun i v h' tk bs hv hr hk => key its rv i v h' tk bs hv hr hk
  · obtain ⟨its, rv, hl, hz⟩ := I.tuple hs
    obtain ⟨as, hra⟩ := Dp.readsAll I (d :: ds) _ its hd rv
    exact min_tuple_data (I.ok.hd hc) hl (by simpa using hra) hal hub fun i v h' tk bs hv hr hk => key its rv i v h' tk bs hv hr hk
theorem cs_minP {K : Fg} : CS K (rMinP K) dMinP := fun B H vs ds d s h e Q q => by
  have key : ∀ (x : D) (xs : List D) (us : List V) (a : Addr), kin (x :: xs) = true → DqAll K B us (x :: xs) → (SqL K H a us ∨ SqT K H a us) → d = minF x xs → rMinP K [.ref a] H Q := by
    intro x xs us a hk hd hs ed
    obtain ⟨hp, hal⟩ := kin_of hk
    have hdp := dqAll_dp _ _ 8 (hd.mono s) hp
    rw [toPys] at hdp hal
    refine ⟨a, us, toPy x, toPys xs, rfl, hs, hdp, hal, ?_, fun i v hv hm => ?_⟩
    · have := (pls_plain (x :: xs) 8 hp).2
      rw [toPys] at this
      exact this
    · have hm' : (toPys (x :: xs))[i]? = some (toPy (minF x xs)) := by rw [toPys, toPy_min]; exact hm
      rw [toPys_map, List.getElem?_map] at hm'
      cases z : (x :: xs)[i]? with
      | none => rw [z] at hm'; cases hm'
      | some y =>
        rw [z] at hm'
        have e1 : toPy y = toPy (minF x xs) := Option.some.inj hm'
        have e2 := toPy_inj y (minF x xs) 8 (pls_at hp (List.mem_of_getElem? z)) (pls_at hp (minF_mem x xs)) e1
        obtain ⟨v', hv', hq⟩ := hd.get z
        rw [hv] at hv'
        cases hv'
        rw [ed, ← e2] at q
        exact q v B H (Fit.refl s) hq
  unfold dMinP at e
  split at e
  · rename_i x xs
    split at e
    · rename_i hk
      cases e
      obtain ⟨v, rfl, h1⟩ := dm1 h
      obtain ⟨p, us, rfl, hh, hd⟩ := h1.lst s
      exact key x xs us p hk hd (.inl (SqL.of hh)) rfl
    · cases e
  · rename_i x xs
    split at e
    · rename_i hk
      cases e
      obtain ⟨v, rfl, h1⟩ := dm1 h
      obtain ⟨p, us, rfl, hb, hh, hd⟩ := h1.tup s
      exact key x xs us p hk hd (.inr (SqT.of hh)) rfl
    · cases e
  · cases e
end Rf
set_option Elab.async false
set_option linter.all false
set_option maxRecDepth 100000
set_option maxHeartbeats 4000000
set_option autoImplicit false
namespace Rf
open PySem L2 PySem.W PyProof.Rows

/-! ## sorted(..) of a list or a tuple of data of one kind -/
section
variable {prog : Program} {w : World} {A : Around} {E : Value → Shared → Prop} {s : Shared}
theorem collect_tp {l : Addr} {vs : List Value} {Q : List Value → Shared → Prop} (ht : s.heap.IsTuple l vs.toArray) (hsz : vs.length ≤ sizeLine)
    (hq : Q vs { s with heap := (s.heap.push (seqObj "list" #[] 0)).update s.heap.objs.size (Obj.mapSeq (· ++ vs.toArray)) }) : wpAny (model prog w) A (collect (.ref l)) Q E s := by
  obtain ⟨o, ho, hc, n, hd⟩ := id ht
  unfold collect
  refine wpAny_bind (wpAny_runValue (codeAny_builtin entry_proto_collect' ?_))
  show wpAny _ _ (do again (.builtin "list.__iadd__" ⟨[← newList [], .ref l], []⟩)) _ _ s
  refine wpAny_bind (wpAny_newList (wpAny_pure ⟨Code.quiet_builtin _ (by decide +kernel), codeAny_builtin entry_list_iadd' ?_⟩))
  show wpAny _ _ (Builtin.List.listExtendWith (.ref s.heap.objs.size) (.ref l) (.ref s.heap.objs.size)) _ _ { s with heap := s.heap.push (seqObj "list" #[] 0) }
  unfold Builtin.List.listExtendWith
  have hop : (s.heap.push (seqObj "list" #[] 0)).get? l = some o := Heap.get?_push_of_some _ ho
  refine wpAny_bind (wpAny_typeOf (T := "tuple") ⟨o, hop, hc⟩ ?_)
  have isT : (Value.type "tuple" == Value.type "tuple") = true := by rfl
  rw [if_pos (by rw [isT]; simp)]
  refine wpAny_bind (listItems_at hop hd ?_)
  refine wpAny_bind (listItems_at (xs := #[]) (n := 0) (Heap.get?_push_size _ rfl) rfl ?_)
  rw [if_neg (by simp)]
  refine wpAny_bind (listUpdate_at (xs := #[]) (n := 0) (Heap.get?_push_size _ rfl) rfl ?_ (Nat.zero_le _) (by show (#[] ++ vs.toArray).size ≤ sizeLine + 1; simp only [Array.size_append, List.size_toArray, List.length_nil]; omega))
  refine wpAny_pure ?_
  show wpAny (model prog w) A (do
      let ob ← load s.heap.objs.size
      match ob.data with
      | .seq xs _ => pure xs.toList
      | _ => unsupported "internal:collect") Q E { s with heap := (s.heap.push (seqObj "list" #[] 0)).update s.heap.objs.size (Obj.mapSeq (· ++ vs.toArray)) }
  refine wpAny_bind (wpAny_load (get?_update_seq (Heap.get?_push_size _ rfl) _) ?_)
  show wpAny _ _ (pure ((#[] : Array Value) ++ vs.toArray).toList) Q E _
  rw [show ((#[] : Array Value) ++ vs.toArray).toList = vs by simp]
  exact wpAny_pure hq
theorem sorted_tp {β : Type} {vs : List Value} {bs : List β} {enc : β → PyData} {R : Value → β → Prop} {l : Addr} {Q : Value → Shared → Prop} (hl : s.heap.IsTuple l vs.toArray) (e : EachIs R vs bs) (er : EachIs (fun v b => ∃ as, Reads s.heap v (enc b) as) vs bs) (hal : AllAlike (bs.map enc)) (hk : Sortable (bs.map enc)) (hL : bs.length ≤ sizeLine)
    (hu : ∀ b, b ∈ bs → A.units + 2 + (enc b).depth < cLine) (hq : ∀ out, out.length = bs.length → EachIs R out (bs.mergeSort (dataLe false enc)) → Q (.ref (s.heap.objs.size + 1)) { s with heap := sortedAll s.heap vs (List.toArray out) }) :
    wpAny (model prog w) A (call (.builtin "sorted") [.ref l]) Q E s := by
  have er2 : EachIs (fun v b => ∃ as, Reads (sortingHeap (copyHeap s.heap vs) (s.heap.objs.size + 1) vs) v (enc b) as) vs bs := er.mono fun _ _ ⟨as, r⟩ => ⟨as, PyProof.Rows.Reads.keeps (fun _ _ => sorting_copy_old) r⟩
  have hLv : vs.length ≤ sizeLine := by rw [e.length]; exact hL
  have S : SortsAt prog w A.in1.in1 { s with heap := sortingHeap (copyHeap s.heap vs) (s.heap.objs.size + 1) vs } (dataKind (sortingHeap (copyHeap s.heap vs) (s.heap.objs.size + 1) vs) (bs.map enc)) vs :=
    SortsAt.data (s := { s with heap := sortingHeap (copyHeap s.heap vs) (s.heap.objs.size + 1) vs }) (each_map (R := fun v d => ∃ as, Reads (sortingHeap (copyHeap s.heap vs) (s.heap.objs.size + 1) vs) v d as) enc er2) hal hk (bound_map hu)
  have fin := hq _ (by rw [sortVals_length false rfl]; exact e.length) (sortVals_data false e er2 hal)
  refine Calls.call_function_entry kind_sorted plain_sorted entry_sorted (args_sorted1 _) ?_
  unfold Builtin.«sorted»
  refine wpAny_bind (m := checkCount "sorted" 1 1 _) (wpAny_pure ?_)
  refine wpAny_bind (collect_tp hl hLv ?_)
  refine wpAny_bind (wpAny_newList ?_ hLv)
  have sz1 : ((s.heap.push (seqObj "list" #[] 0)).update s.heap.objs.size (Obj.mapSeq (· ++ vs.toArray))).objs.size = s.heap.objs.size + 1 := by
    rw [Heap.size_update, size_push']
  show wpAny _ _ _ _ _ { s with heap := copyHeap s.heap vs }
  rw [sz1]
  refine wpAny_bind (wpAny_holding (wpAny_call_entry_kw slot_list_sort ⟨_, copyHeap_at s.heap vs, rfl⟩ entry_list_sort ?body (args_list_sort _)))
  case body =>
    show wpAny (model prog w) A.in1.in1 (Builtin.«list.sort» ⟨[.ref (s.heap.objs.size + 1)], []⟩) _ _ _
    refine wpAny_mono (list_sort_vals (P := fun f s' => f = .done (.ret .none) ∧ Q (.ref (s.heap.objs.size + 1)) s') (s := { s with heap := copyHeap s.heap vs }) (copyHeap_at s.heap vs) S hLv ⟨rfl, fin⟩) (fun f s' hf => ?_) fun _ _ ee => ee
    obtain ⟨rfl, hfq⟩ := hf
    exact ⟨_, rfl, wpAny_pure ⟨_, rfl, hfq⟩⟩
end
def rSortP (K : Fg) : List V → Hp → VK → Prop := fun vs H Q => ∃ (a : Addr) (xs : List V) (ds : List PyData), vs = [.ref a] ∧ (SqL K H a xs ∨ SqT K H a xs) ∧ DpAll K H xs ds ∧ AllAlike ds ∧ W.Sortable ds ∧ PyData.depthAll ds ≤ 8 ∧
  ∀ p : Addr, H p = none → Q (.ref p) (upd H p (.lst (((xs.zip ds).mergeSort (dataLe false Prod.snd)).map Prod.fst)))
theorem depth_at : ∀ {ds : List PyData} {d : PyData}, d ∈ ds → d.depth ≤ PyData.depthAll ds
  | x :: xs, d, hm => by
    rw [PyData.depthAll]
    rcases List.mem_cons.mp hm with rfl | hm
    · omega
    · have := depth_at hm
      omega
theorem each_zip {X : Cx} {pins : List (Addr × Obj)} {σ : L2.St} {H : Hp} {s : Shared} (I : Inv X pins σ H s) : ∀ {xs : List V} {ds : List PyData} {its : List Value}, Vals xs its → DpAll X.K H xs ds →
    EachIs (fun u (b : V × PyData) => RelV b.1 u) its (xs.zip ds) ∧ EachIs (fun u (b : V × PyData) => ∃ as, Reads s.heap u b.2 as) its (xs.zip ds) ∧ (xs.zip ds).map Prod.snd = ds ∧ xs.length = ds.length
  | [], _, _, .nil, h => by cases h; exact ⟨.nil, .nil, rfl, rfl⟩
  | x :: xs, _, _, .cons r rs, h => by
    cases h with
    | cons h1 h2 =>
      obtain ⟨e1, e2, e3, e4⟩ := each_zip I rs h2
      exact ⟨.cons r e1, .cons (Dp.reads I _ _ _ h1 r) e2, by rw [List.zip_cons_cons, List.map_cons, e3], by rw [List.length_cons, List.length_cons, e4]⟩
theorem vals_each : ∀ {bs : List (V × PyData)} {out : List Value}, EachIs (fun u (b : V × PyData) => RelV b.1 u) out bs → Vals (bs.map Prod.fst) out
  | [], _, h => by cases h; exact .nil
  | b :: bs, _, h => by
    cases h with
    | cons h1 h2 => exact .cons h1 (vals_each h2)
theorem cr_sortP {X : Cx} (hu : X.A.units + 64 < cLine) : CallR X (.builtin "sorted") (rSortP X.K) := by
  intro pins s σ H vs us Q I r h
  obtain ⟨a, xs, ds, rfl, hs, hd, hal, hso, hdep, q⟩ := h
  rw [Vals.ref1 r]
  have key : ∀ (its : List Value), Vals xs its → xs.length ≤ sizeLine → ∀ out : List Value, out.length = (xs.zip ds).length → EachIs (fun u (b : V × PyData) => RelV b.1 u) out ((xs.zip ds).mergeSort (dataLe false Prod.snd)) →
      EP X pins σ Q (.ref (s.heap.objs.size + 1)) { s with heap := sortedAll s.heap its (List.toArray out) } := by
    intro its rv hz out ho eo
    obtain ⟨ep, he⟩ := PyProof.Rows.sortedAll_at s.heap its (List.toArray out)
    have hlen : (((xs.zip ds).mergeSort (dataLe false Prod.snd)).map Prod.fst).length ≤ sizeLine := by
      rw [List.length_map, List.length_mergeSort, List.length_zip]
      omega
    exact ⟨.ref _, upd H (s.heap.objs.size + 1) (.lst (((xs.zip ds).mergeSort (dataLe false Prod.snd)).map Prod.fst)), I.laid (t' := s.toks) (fun _ _ => PyProof.Rows.sortedAll_old) (Nat.le_succ _) ⟨hlen, out, ep, vals_each eo, he⟩, rfl, q _ (I.hok.fresh (Nat.le_succ _))⟩
  have hub : ∀ b : V × PyData, b ∈ xs.zip ds → X.A.units + 2 + b.2.depth < cLine := fun b hb => by
    have := depth_at (List.of_mem_zip hb).2
    omega
  rcases hs with hs | hs
  · obtain ⟨its, rv, hl, hz⟩ := I.list hs
    obtain ⟨e1, e2, e3, e4⟩ := each_zip I rv hd
    exact sorted_data hl.isList e1 e2 (by rw [e3]; exact hal) (by rw [e3]; exact hso) (by rw [List.length_zip]; omega) hub (key its rv hz)
  · obtain ⟨its, rv, hl, hz⟩ := I.tuple hs
    obtain ⟨e1, e2, e3, e4⟩ := each_zip I rv hd
    exact sorted_tp hl e1 e2 (by rw [e3]; exact hal) (by rw [e3]; exact hso) (by rw [List.length_zip]; omega) hub (key its rv hz)
def dle (x y : D) : Bool := dataLe false toPy x y
def isTupD : D → Bool
  | .tup _ => true
  | _ => false
def neTup : D → Bool
  | .tup (_ :: _) => true
  | _ => false
def srtOk (ds : List D) : Bool := ds.all neTup || ds.all fun x => !isTupD x
def sortP (ds : List D) : List D := ds.mergeSort dle
def lSortP : List D → Option (List D)
  | [.lst ds] => if kin ds && srtOk ds then some (sortP ds) else none
  | [.tup ds] => if kin ds && srtOk ds then some (sortP ds) else none
  | _ => none
theorem dqAll_of {K : Fg} {B : Hp} : ∀ {ps : List (V × D)}, (∀ p ∈ ps, Dq K B p.1 p.2) → DqAll K B (ps.map Prod.fst) (ps.map Prod.snd)
  | [], _ => .nil
  | p :: ps, h => .cons (h p (by simp)) (dqAll_of fun q hq => h q (by simp [hq]))
theorem dqAll_zip {K : Fg} {B : Hp} : ∀ {us : List V} {ds : List D}, DqAll K B us ds → (∀ p ∈ us.zip ds, Dq K B p.1 p.2) ∧ (us.zip ds).map Prod.snd = ds
  | [], _, h => by cases h; exact ⟨fun _ hp => (nomatch hp), rfl⟩
  | u :: us, _, h => by
    cases h with
    | cons h1 h2 =>
      obtain ⟨i1, i2⟩ := dqAll_zip h2
      refine ⟨fun p hp => ?_, by rw [List.zip_cons_cons, List.map_cons, i2]⟩
      rw [List.zip_cons_cons] at hp
      rcases List.mem_cons.mp hp with rfl | hp
      · exact h1
      · exact i1 p hp
theorem cs_sortP {K : Fg} : CSL K (rSortP K) lSortP := fun B H vs ds d s h e Q q => by
  have key : ∀ (es : List D) (us : List V) (a : Addr), (kin es && srtOk es) = true → DqAll K B us es → (SqL K H a us ∨ SqT K H a us) → d = sortP es → rSortP K [.ref a] H Q := by
    intro es us a hk hd hs ed
    rw [Bool.and_eq_true] at hk
    obtain ⟨hp, hal⟩ := kin_of hk.1
    refine ⟨a, us, toPys es, rfl, hs, dqAll_dp _ _ 8 (hd.mono s) hp, fun x hx y hy => hal.1 x hx y hy, ?_, (pls_plain es 8 hp).2, fun p hr => ?_⟩
    · have h2 := hk.2
      unfold srtOk at h2
      rw [Bool.or_eq_true] at h2
      rcases h2 with h2 | h2
      · refine .inl fun x hx => ?_
        rw [toPys_map] at hx
        obtain ⟨b, hb, rfl⟩ := List.mem_map.mp hx
        have := List.all_eq_true.mp h2 b hb
        cases b with
        | tup l =>
          cases l with
          | nil => simp [neTup] at this
          | cons y ys => exact ⟨toPy y, toPys ys, by rw [toPy, toPys]⟩
        | _ => simp [neTup] at this
      · refine .inr fun x hx => ⟨hal.2 x hx, fun ys hy => ?_⟩
        rw [toPys_map] at hx
        obtain ⟨b, hb, rfl⟩ := List.mem_map.mp hx
        have := List.all_eq_true.mp h2 b hb
        have hpb := pls_at hp hb
        cases b <;> simp_all [toPy, isTupD, pl]
    · obtain ⟨z1, z2⟩ := dqAll_zip hd
      have em : us.zip (toPys es) = (us.zip es).map fun p => (p.1, toPy p.2) := by rw [toPys_map, List.zip_map_right]; rfl
      have e1 : ((us.zip (toPys es)).mergeSort (dataLe false Prod.snd)) = ((us.zip es).mergeSort fun p r => dle p.2 r.2).map fun p => (p.1, toPy p.2) := by
        rw [em, List.map_mergeSort (s := dataLe false Prod.snd)]
        intro p _ r _
        rfl
      have e2 : ((us.zip es).mergeSort fun p r => dle p.2 r.2).map Prod.snd = sortP es := by
        rw [List.map_mergeSort (s := dle), z2]
        · rfl
        · intro p _ r _
          rfl
      rw [e1, List.map_map]
      have hall : DqAll K B (((us.zip es).mergeSort fun p r => dle p.2 r.2).map Prod.fst) (((us.zip es).mergeSort fun p r => dle p.2 r.2).map Prod.snd) := dqAll_of fun p hp => z1 p (List.mem_mergeSort.mp hp)
      rw [e2, ← ed] at hall
      exact q p _ B _ (Fit.grow s (same_new hr)) hr (s.free hr) upd_same hall
  unfold lSortP at e
  split at e
  · split at e
    · rename_i es hk
      cases e
      obtain ⟨v, rfl, h1⟩ := dm1 h
      obtain ⟨p, us, rfl, hh, hd⟩ := h1.lst s
      exact key es us p hk hd (.inl (SqL.of hh)) rfl
    · cases e
  · split at e
    · rename_i es hk
      cases e
      obtain ⟨v, rfl, h1⟩ := dm1 h
      obtain ⟨p, us, rfl, hb, hh, hd⟩ := h1.tup s
      exact key es us p hk hd (.inr (SqT.of hh)) rfl
    · cases e
  · cases e
end Rf
set_option Elab.async false
set_option linter.all false
set_option maxRecDepth 100000
set_option maxHeartbeats 4000000
set_option autoImplicit false
namespace Rf
open PySem L2 PySem.W PyProof.Rows HT

/-! ## t[::-1] of a tuple -/
theorem adj_rev (n : Nat) : Builtin.Slice.sliceAdjust none none (-1) (n : Int) = ((n : Int) - 1, -1) := by
  unfold Builtin.Slice.sliceAdjust
  simp
theorem places_rev (n : Nat) : Builtin.Slice.slicePlaces ((n : Int) - 1) (-1) (-1) = n := by
  unfold Builtin.Slice.slicePlaces
  by_cases h : n = 0
  · subst h; simp
  · simp
    omega
theorem fm_map {α β : Type} {f : α → Option β} {g : α → β} : ∀ {l : List α}, (∀ m ∈ l, f m = some (g m)) → l.filterMap f = l.map g
  | [], _ => rfl
  | x :: l, h => by
    rw [List.filterMap_cons_some (h x (by simp)), List.map_cons, fm_map fun m hm => h m (by simp [hm])]
theorem pick_rev (xs : Array Value) : ((List.range xs.size).filterMap fun (m : Nat) => xs[(((xs.size : Int) - 1) + (m : Int) * (-1)).toNat]?).toArray = xs.toList.reverse.toArray := by
  congr 1
  apply List.ext_getElem?
  intro i
  have e : (List.range xs.size).filterMap (fun (m : Nat) => xs[(((xs.size : Int) - 1) + (m : Int) * (-1)).toNat]?) = (List.range xs.size).map (fun m => xs.toList.reverse.getD m Value.none) := by
    refine fm_map fun m hm => ?_
    have hm' := List.mem_range.mp hm
    have i1 : (((xs.size : Int) - 1) + (m : Int) * (-1)).toNat = xs.size - 1 - m := by omega
    rw [i1]
    have hl : xs.size - 1 - m < xs.size := by omega
    have hr : m < xs.toList.reverse.length := by simp; omega
    rw [Array.getElem?_eq_getElem hl, List.getD_eq_getElem?_getD, List.getElem?_eq_getElem hr, Option.getD_some, List.getElem_reverse]
    simp
  rw [e, List.getElem?_map]
  by_cases hi : i < xs.size
  · have hr : i < xs.toList.reverse.length := by simp; omega
    rw [List.getElem?_range hi, Option.map_some, List.getD_eq_getElem?_getD, List.getElem?_eq_getElem hr, Option.getD_some]
  · rw [List.getElem?_eq_none (by simp; omega), List.getElem?_eq_none (by simp; omega)]
    rfl
section
variable {prog : Program} {w : World} {A : Around} {E : Value → Shared → Prop} {s : Shared}
theorem applied_rev {sl : Addr} {vs : Value} {n : Nat} {Q : Int × Int × Nat → Shared → Prop} (hs : s.heap.IsSliceOf sl .none .none vs) (ps : IsPart vs (some (-1)))
    (hq : Q ((n : Int) - 1, -1, n) s) : wpAny (model prog w) A (Builtin.Slice.sliceApplied (.ref sl) (pure (n : Int))) Q E s := by
  obtain ⟨os, hos, hcs, hds⟩ := id hs
  unfold Builtin.Slice.sliceApplied Builtin.Slice.sliceFields
  refine wpAny_bind (wpAny_bind (wpAny_field hos hds (x := .none) rfl (wpAny_bind (wpAny_field hos hds (x := .none) rfl (wpAny_bind (wpAny_field hos hds (x := vs) rfl (wpAny_pure ?_)))))))
  refine wpAny_bind (slicePart_ ps ?_)
  show wpAny _ _ (if ((-1 : Int) == 0) = true then _ else _) _ _ s
  rw [if_neg (by decide)]
  refine wpAny_bind (slicePart_none (wpAny_bind (slicePart_none (wpAny_bind (wpAny_pure ?_)))))
  show wpAny _ _ (match Builtin.Slice.sliceAdjust none none (-1) (n : Int) with | (lo, hi) => pure (lo, (-1 : Int), Builtin.Slice.slicePlaces lo hi (-1))) _ _ s
  rw [adj_rev n]
  show wpAny _ _ (pure ((n : Int) - 1, (-1 : Int), Builtin.Slice.slicePlaces ((n : Int) - 1) (-1) (-1))) _ _ s
  rw [places_rev]
  exact wpAny_pure hq
theorem item_rev {t sl : Addr} {items : Array Value} {vs : Value} {Q : Value → Shared → Prop} (ht : IsTup s.heap t items) (hs : s.heap.IsSliceOf sl .none .none vs) (ps : IsPart vs (some (-1)))
    (hq : Q (.ref s.heap.objs.size) { s with heap := s.heap.push { cls := .type "tuple", data := .seq items.toList.reverse.toArray } }) (hsz : items.size ≤ sizeLine) : wpAny (model prog w) A (getItem (.ref t) (.ref sl)) Q E s := by
  have hok : sizeOk (.seq items.toList.reverse.toArray) := by
    show items.toList.reverse.toArray.size ≤ sizeLine
    rw [List.size_toArray, List.length_reverse, Array.length_toList]
    exact hsz
  obtain ⟨os, hos, hcs, hds⟩ := id hs
  have isS : s.TypeIs (.ref sl) "slice" := ⟨os, hos, hcs⟩
  unfold getItem
  try with_reducible refine wpAny_holding ?_
  first | refine wpAny_bind (wpAny_pure ?_) | skip
  refine wpAny_bind (wpAny_sequenceKey ht.typeIs (by decide) ?_)
  refine wpAny_bind (wpAny_callSpecial?_slot (name := Str.ofString "__getitem__") ht.typeIs PyProof.Rows.slot_tuple_getitem (wpAny_call_entry PyProof.Rows.slot_tuple_getitem ht.typeIs entry_tuple_getitem ?_ (args_tuple_getitem _ _)))
  show wpAny _ _ (Builtin.Tuple.tupleItemsOf (.ref t) >>= _) _ _ s
  refine wpAny_bind (tupleItemsOf_ ht (wpAny_bind (wpAny_typeOf isS ?_)))
  rw [if_pos (by decide)]
  refine wpAny_bind (applied_rev hs ps ?_)
  have isno : ¬ ((((items.size : Int) - 1) == 0 && (-1 : Int) == 1 && items.size == items.size) = true) := by simp
  show wpAny _ _ (if (((items.size : Int) - 1) == 0 && (-1 : Int) == 1 && items.size == items.size) = true then _ else _) _ _ s
  rw [if_neg isno, pick_rev]
  first
    | exact wpAny_bind (m := Builtin.Tuple.tupleExact _) (wpAny_newObj_type (wpAny_pure ⟨_, rfl, wpAny_pure hq⟩) hok)
    | exact wpAny_bind (m := Builtin.Tuple.tupleExact _) (wpAny_newObj_type (wpAny_bind (wpAny_pure (wpAny_pure ⟨_, rfl, wpAny_pure hq⟩))) hok)
    | exact wpAny_bind (wpAny_bind (m := Builtin.Tuple.tupleExact _) (wpAny_newObj_type (wpAny_pure (wpAny_pure ⟨_, rfl, wpAny_pure hq⟩)) hok))
    | exact wpAny_bind (wpAny_bind (m := Builtin.Tuple.tupleExact _) (wpAny_newObj_type (wpAny_pure ⟨_, rfl, wpAny_pure hq⟩) hok))
end
def tRevT (K : Fg) (te : TE) : TE := fun σ H Q => te σ H fun x H1 => ∃ a xs, x = .ref a ∧ SqT K H1 a xs ∧ ∀ p, H1 p = none → Q (.ref p) (upd H1 p (.tup xs.reverse))
section
variable {X : Cx} {e : Expr} {te : TE} {ae : AE} {k : Nat} {p1 p2 p3 pos : Pos}
theorem pe_revT (he : PE X e te) : PE X (.Subscript e (.Slice none none (some (.UnaryOp .USub (.Constant (.int 1) k p1) p2)) p3) pos) (tRevT X.K te) := by
  refine ⟨fun pins s σ H Q I h => ?_⟩
  refine Subscript_ (thn (he.run pins s σ H _ I h) fun v s1 ⟨x, H1, I1, r1, q1⟩ => ?_)
  obtain ⟨a, xs, ex, hx, q⟩ := q1
  subst ex
  cases r1
  have step1 : PO X (some (.UnaryOp .USub (.Constant (.int 1) k p1) p2)) (tPart (tUn (rU fun i => .int (-i)) (tC (.int 1)))) := po_some (pe_un un_neg pe_int)
  refine wpAny_Slice (thn (po_none.run pins s1 σ H1 (fun o H2 => o = none ∧ H2 = H1) I1 ⟨rfl, rfl⟩) fun vl s2 ⟨l, H2, I2, pl, el, e2⟩ => ?_)
  subst el e2
  refine thn (po_none.run pins s2 σ H2 (fun o H3 => o = none ∧ H3 = H2) I2 ⟨rfl, rfl⟩) fun vu s3 ⟨u, H3, I3, pu, eu, e3⟩ => ?_
  subst eu e3
  refine thn (step1.run pins s3 σ H3 (fun o H4 => o = some (-1) ∧ H4 = H3) I3 ⟨1, rfl, -1, rfl, rfl, rfl⟩) fun vs s4 ⟨o, H4, I4, ps, eo, e4⟩ => ?_
  subst eo e4
  have I5 : Inv X pins σ H4 { s4 with heap := s4.heap.push { cls := .type "slice", data := .fields #[vl, vu, vs] } } := I4.kept (t' := s4.toks) fun b ob q => Heap.get?_push_of_some _ q
  obtain ⟨its, r, ht, hz⟩ := I5.tuple hx
  have hlen := r.length
  have evl : vl = .none := by cases pl; rfl
  have evu : vu = .none := by cases pu; rfl
  subst evl evu
  show wpAny (model X.prog X.w) X.A (subscriptTail e (.Slice none none (some (.UnaryOp .USub (.Constant (.int 1) k p1) p2)) p3) (.ref a) (.ref s4.heap.objs.size)) (EP X pins σ Q) X.xe { s4 with heap := s4.heap.push { cls := .type "slice", data := .fields #[.none, .none, vs] } }
  refine tail_any (ops := [.ref a, .ref s4.heap.objs.size]) ht.typeIs (PyProof.Rows.slot_tuple_getitem.lookup) ?_ (by with_unfolding_all rfl)
  refine item_rev ht (Heap.IsSliceOf.new _ .none .none vs) ps ?_ (by rw [List.size_toArray]; omega)
  refine ⟨.ref _, _, I5.laid (t' := s4.toks) (o := .tup xs.reverse) (fun b ob q => Heap.get?_push_of_some _ q) (Nat.le_refl _) ?_, rfl, q _ (I5.hok.fresh (Nat.le_refl _))⟩
  exact ⟨by rw [List.length_reverse]; exact hz, _, r.reverse, IsTup.new _ _⟩
def aRevT (fa : AE) : AE := fun E => match fa E with
  | some (.tup ds) => some (.tup ds.reverse)
  | _ => none
theorem ge_revT (ha : GM X e te ae) : GE X (.Subscript e (.Slice none none (some (.UnaryOp .USub (.Constant (.int 1) k p1) p2)) p3) pos) (tRevT X.K te) (aRevT ae) :=
  ⟨pe_revT ha.pe, fun B0 H0 E σ B H rp d z Q q => by
    unfold aRevT at z
    split at z
    · rename_i ds z1
      cases z
      refine ha.sn B0 H0 E σ B H rp _ z1 _ fun v B1 H1 f1 h1 => ?_
      obtain ⟨p, us, rfl, hb1, hh1, q1⟩ := h1.tup f1.bh
      exact ⟨p, us, rfl, SqT.of hh1, fun r hr => q _ _ _ (f1.trans (Fit.new f1.bh hr)) (.tup upd_same (q1.reverse.mono (same_new (f1.bh.free hr))))⟩
    · cases z⟩
end

/-! ## set(..) of a tuple of ints -/
def rSetT (K : Fg) (w : World) : List V → Hp → VK → Prop := fun xs H Q => ∃ (p : Addr) (ns : List Int), xs = [.ref p] ∧ SqT K H p (ns.map V.int) ∧ ns.length ≤ 1000 ∧
  ∀ (q : Addr) (c : Nat), H q = none → (∃ ks : List Int, ks.Nodup ∧ (∀ k, k ∈ ks ↔ k ∈ ns) ∧ ks.length = c) → Q (.ref q) (upd H q (SetO w q (fun j => decide (j ∈ ns)) c))
theorem cr_setT {X : Cx} (hc : X.calm = true) : CallR X (.type "set") (rSetT X.K X.w) := by
  intro pins s σ H vs us Q I r h
  obtain ⟨p, ns, rfl, hs, hl, q⟩ := h
  rw [Vals.ref1 r]
  obtain ⟨its, rv, pt, hz⟩ := I.tuple hs
  have hi : IntsAre its.toArray.toList ns := ints_of_vals rv
  refine call_set_tupI ns (I.ok.hd hc) (show s.heap.IsTuple p its.toArray from pt) hi (by unfold scanBound; omega) fun h' tk c R1 hcn k => ?_
  have hks : ∃ ks : List Int, ks.Nodup ∧ (∀ k, k ∈ ks ↔ k ∈ ns) ∧ ks.length = c := by
    obtain ⟨o, es, ep, t, ho, hex, hdt, g, nd, hm2, hb, hf, hn, hr, hl2⟩ := R1
    exact ⟨es.toList.map keyOf, nd, fun j => by rw [← hm2 j, decide_eq_true_eq], by rw [List.length_map, Array.length_toList]; exact hn⟩
  exact ⟨.ref _, upd H s.heap.objs.size (SetO X.w s.heap.objs.size (fun j => decide (j ∈ ns)) c), I.laid (t' := tk) k (Nat.le_refl _) (setO_new R1), rfl, q _ c (I.hok.fresh (Nat.le_refl _)) hks⟩
def rLenS (w : World) : List V → Hp → VK → Prop := fun xs H Q => ∃ (a : Addr) (S : Int → Bool) (n : Nat), xs = [V.ref a] ∧ H a = some (SetO w a S n) ∧ n < 1000000 ∧ Q (.int (n : Nat)) H
theorem cr_lenS {X : Cx} : CallR X (.builtin "len") (rLenS X.w) := by
  intro pins s σ H vs us Q I r h
  obtain ⟨a, S, n, rfl, ha, hn, q⟩ := h
  rw [Vals.ref1 r]
  obtain ⟨o, es, ep, t, ho, hex, hdt, g, nd, hm2, hb, hf, hne, hr, hl2⟩ := setO_get I ha
  exact call_len_set ho hex hdt hf (by omega) ⟨.int (n : Nat), H, I.tok _, ⟨_, by rw [hne]⟩, q⟩
def undup : List Int → List Int
  | [] => []
  | x :: xs => if x ∈ xs then undup xs else x :: undup xs
theorem mem_undup : ∀ (ns : List Int) (k : Int), k ∈ undup ns ↔ k ∈ ns
  | [], k => Iff.rfl
  | x :: xs, k => by
    rw [undup]
    split
    · rename_i h
      rw [mem_undup xs k, List.mem_cons]
      constructor
      · exact .inr
      · rintro (rfl | q)
        · exact h
        · exact q
    · rw [List.mem_cons, mem_undup xs k, List.mem_cons]
theorem nodup_undup : ∀ ns : List Int, (undup ns).Nodup
  | [] => List.nodup_nil
  | x :: xs => by
    rw [undup]
    split
    · exact nodup_undup xs
    · rename_i h
      rw [List.nodup_cons]
      exact ⟨fun q => h ((mem_undup xs x).mp q), nodup_undup xs⟩
theorem undup_of_nodup : ∀ {ns : List Int}, ns.Nodup → undup ns = ns
  | [], _ => rfl
  | x :: xs, h => by
    rw [List.nodup_cons] at h
    rw [undup, if_neg h.1, undup_of_nodup h.2]
theorem undup_len_le : ∀ ns : List Int, (undup ns).length ≤ ns.length
  | [] => Nat.le_refl _
  | x :: xs => by
    rw [undup]
    split
    · exact Nat.le_succ_of_le (undup_len_le xs)
    · exact Nat.succ_le_succ (undup_len_le xs)
theorem nodup_of_len : ∀ {ns : List Int}, (undup ns).length = ns.length → ns.Nodup
  | [], _ => List.nodup_nil
  | x :: xs, h => by
    rw [undup] at h
    split at h
    · have := undup_len_le xs
      rw [List.length_cons] at h
      omega
    · rename_i hx
      rw [List.nodup_cons]
      exact ⟨hx, nodup_of_len (Nat.succ.inj h)⟩
theorem nodup_len {a b : List Int} (ha : a.Nodup) (hb : b.Nodup) (h : ∀ k, k ∈ a ↔ k ∈ b) : a.length = b.length :=
  ((List.perm_ext_iff_of_nodup ha hb).mpr h).length_eq
def aLenSet (fa : AE) : AE := fun E => match fa E with
  | some (.tup ds) => match intsOf ds with
    | some ns => if ns.length ≤ 1000 then some (.int ((undup ns).length : Nat)) else none
    | none => none
  | _ => none
def alSortSet (fa : AE) : AA := fun E => match fa E with
  | some (.tup ds) => match intsOf ds with
    | some ns => if ns.length ≤ 60 then some ((sortI (undup ns)).map D.int) else none
    | none => none
  | _ => none
section
variable {X : Cx} {e : Expr} {te : TE} {ae : AE} {p p2 q pos : Pos}
abbrev tSetT (K : Fg) (w : World) (te : TE) : TA := tCons (tCB (rSetT K w) (tCons te tNil)) tNil
theorem pa_setT (ha : PE X e te) (hg : Gl X "set") (hm : X.mg "set" = none) (hc : X.calm = true) (na : starEach [e] X.env = (false, eval e X.env) :: starEach [] X.env) : PA X [.Call (.Name "set" p2) [e] [] q] (tSetT X.K X.w te) :=
  pa_cons (pe_callTy (cr_setT hc) hg hm (by decide +kernel) (pa_cons ha pa_nil na) (by decide) (by decide) na rfl) pa_nil rfl
theorem set_step {K : Fg} {w : World} {B0 H0 : Hp} {E : En} {σ : L2.St} {B H : Hp} (h : SnM K te ae) (rp : Rep K B0 H0 E σ B H) {ds : List D} {ns : List Int} (z : ae E = some (.tup ds)) (zi : intsOf ds = some ns) (hl : ns.length ≤ 1000) {R : List V → Hp → Prop}
    (hR : ∀ (p : Addr) (B1 H1 : Hp), Fit B H B1 H1 → H1 p = none → R [.ref p] (upd H1 p (SetO w p (fun j => decide (j ∈ ns)) (undup ns).length))) : tSetT K w te σ H R := by
  refine h B0 H0 E σ B H rp _ z _ fun v B1 H1 f1 h1 => ?_
  obtain ⟨a, us, rfl, hb1, hh1, q1⟩ := h1.tup f1.bh
  rw [intsOf_eq zi] at q1
  rw [q1.ints] at hh1
  refine ⟨a, ns, rfl, SqT.of hh1, hl, fun p c hp hk => ?_⟩
  obtain ⟨ks, n1, n2, n3⟩ := hk
  have : c = (undup ns).length := by
    rw [← n3]
    exact nodup_len n1 (nodup_undup ns) fun k => by rw [n2 k, mem_undup]
  subst this
  exact hR p B1 H1 f1 hp
theorem ge_lenset (h : GM X e te ae) (hg : Gl X "len") (hm : X.mg "len" = none) (hg2 : Gl X "set") (hm2 : X.mg "set" = none) (hc : X.calm = true := by rfl) (na : starEach [e] X.env = (false, eval e X.env) :: starEach [] X.env := by rfl) :
    GE X (.Call (.Name "len" p) [.Call (.Name "set" p2) [e] [] q] [] pos) (tCB (rLenS X.w) (tSetT X.K X.w te)) (aLenSet ae) :=
  ⟨pe_callB cr_lenS hg hm (by decide +kernel) (pa_setT h.pe hg2 hm2 hc na) (by decide) (by decide) rfl rfl, fun B0 H0 E σ B H rp d z Q q => by
    unfold aLenSet at z
    split at z
    · rename_i ds z1
      split at z
      · rename_i ns z2
        split at z
        · rename_i hl
          cases z
          show tSetT X.K X.w te σ H fun vs H2 => rLenS X.w vs H2 Q
          refine set_step h.sn rp z1 z2 hl fun p B1 H1 f1 hp => ?_
          have := undup_len_le ns
          exact ⟨p, _, _, rfl, upd_same, by omega, q _ B1 _ (f1.trans (Fit.grow f1.bh (same_new hp))) (.int _)⟩
        · cases z
      · cases z
    · cases z⟩
theorem gl_sortset (h : GM X e te ae) (hg : Gl X "sorted") (hm : X.mg "sorted" = none) (hg2 : Gl X "set") (hm2 : X.mg "set" = none) (hc : X.calm = true := by rfl) (na : starEach [e] X.env = (false, eval e X.env) :: starEach [] X.env := by rfl) :
    GL X (.Call (.Name "sorted" p) [.Call (.Name "set" p2) [e] [] q] [] pos) (tCB (rSortedSet X.w) (tSetT X.K X.w te)) (alSortSet ae) :=
  ⟨pe_callB (cr_sortedSet hc) hg hm (by decide +kernel) (pa_setT h.pe hg2 hm2 hc na) (by decide) (by decide) rfl rfl, fun B0 H0 E σ B H rp d z Q q => by
    unfold alSortSet at z
    split at z
    · rename_i ds z1
      split at z
      · rename_i ns z2
        split at z
        · rename_i hl
          cases z
          show tSetT X.K X.w te σ H fun vs H2 => rSortedSet X.w vs H2 Q
          refine set_step h.sn rp z1 z2 (by omega) fun p B1 H1 f1 hp => ?_
          have hul := undup_len_le ns
          refine ⟨p, _, _, rfl, upd_same, by omega, fun ks r hpw hmem hlen hr => ?_⟩
          have f2 := f1.trans (Fit.grow f1.bh (same_new hp) : Fit B1 H1 B1 (upd H1 p (SetO X.w p (fun j => decide (j ∈ ns)) (undup ns).length)))
          have e : ks = sortI (undup ns) := by
            refine sorted_same (hpw.imp fun h => Int.le_of_lt h) (sortI_sorted _) ?_
            refine List.Perm.trans ?_ (sortI_perm _).symm
            refine (List.perm_ext_iff_of_nodup (hpw.imp fun h => Int.ne_of_lt h) (nodup_undup ns)).mpr fun k => ?_
            rw [hmem k, decide_eq_true_eq, mem_undup]
          subst e
          exact q r _ B1 _ (f2.trans (Fit.grow f2.bh (same_new hr))) (f2.free hr) (f2.bh.free hr) upd_same (DqAll.of_ints _)
        · cases z
      · cases z
    · cases z⟩
end
end Rf
set_option Elab.async false
set_option linter.all false
set_option maxRecDepth 100000
set_option maxHeartbeats 4000000
set_option autoImplicit false
namespace Rf
open PySem L2

/-! ## while, named; defs that call themselves -/
def aWh (n : Nat) (t : AT) (b : AS) (l : List Nat) : AS := fun E => whL t b l n (wipeE E l)
theorem gs_while {X : Cx} {W : WX} {c : Expr} {tc : TT} {fc : AT} {pos : Pos} {body : List Stmt} {tb : TS} {ab : AS} (n : Nat) (l : List Nat) (hp : PassesOwn (model X.prog X.w) X.A X.env X.xe) (hc : GT X c tc fc) (hb : GSs X W body tb ab) :
    GS X W (.While c body [] pos) (tWhile tc tb) (aWh n fc ab l) := gs_wh n l hp hc hb
def itF (step : Fn → Fn) : Nat → Fn
  | 0 => fun _ => none
  | n + 1 => step (itF step n)
section
variable {P : Program} {w : World} {K : Fg} {mg : Str → Option Value} {base : Heap}
theorem has_none {x : Str} {st : Stmt} {ps : List Str} (k : Nat) (D : DefAt K mg x st ps) : Has P w K mg base k x ps (fun _ => none) := by
  obtain ⟨f, fd, F, hm, hb⟩ := D
  exact ⟨f, fd, ⟨fun vs H Q E ⟨hl, _⟩ => hl, fun A outer s H args us vs Q E _ _ _ _ ⟨_, _, _, _, _, h⟩ => h.elim⟩, hm, F.kp, hb⟩
theorem has_it {x : Str} {st : Stmt} {ps : List Str} {step : Fn → Fn} {k0 : Nat} (D : DefAt K mg x st ps) (h : ∀ (k : Nat) (F : Fn), k0 ≤ k → Has P w K mg base k x ps F → Has P w K mg base (k + 1) x ps (step F)) (n : Nat) : Has P w K mg base (k0 + n) x ps (itF step n) := by
  induction n with
  | zero => exact has_none _ D
  | succ n ih => exact h (k0 + n) _ (Nat.le_add_right _ _) ih
end
end Rf
set_option Elab.async false
set_option linter.all false
set_option maxRecDepth 100000
set_option maxHeartbeats 4000000
set_option autoImplicit false
namespace Rf
open PySem L2

/-! ## min of three ints -/
def mn3 (i j k : Int) : Int := if k < (if j < i then j else i) then k else (if j < i then j else i)
def rMin3K : List V → Hp → VK → Prop := fun xs H Q => ∃ i j k, xs = [.int i, .int j, .int k] ∧ Q (.int (mn3 i j k)) H
theorem call_min3 {X : Cx} (hc : X.calm = true) : CallR X (.builtin "min") rMin3K := by
  intro pins s σ H xs us Q I r h
  obtain ⟨i, j, k, rfl, q⟩ := h
  obtain ⟨u1, us', rfl, ⟨t1, rfl⟩, r'⟩ : ∃ u us', us = u :: us' ∧ RelV (.int i) u ∧ Vals [.int j, .int k] us' := by
    cases r with
    | cons a b => exact ⟨_, _, rfl, a, b⟩
  obtain ⟨u2, u3, rfl, ⟨t2, rfl⟩, ⟨t3, rfl⟩⟩ := vals2 r'
  refine min_three_ints (I.ok.hd hc) fun h' tk kk => ⟨_, H, I.kept kk, ?_, q⟩
  unfold mn3
  by_cases a : j < i
  · simp only [a, if_true]
    by_cases b : k < j
    · simp only [b, if_true]; exact ⟨_, rfl⟩
    · simp only [b, if_false]; exact ⟨_, rfl⟩
  · simp only [a, if_false]
    by_cases b : k < i
    · simp only [b, if_true]; exact ⟨_, rfl⟩
    · simp only [b, if_false]; exact ⟨_, rfl⟩
def dMin3 : List D → Option D
  | [.int i, .int j, .int k] => some (.int (mn3 i j k))
  | _ => none
theorem dm3 {K : Fg} {B H : Hp} {vs : List V} {a b c : D} (h : DmAll K B H vs [a, b, c]) : ∃ x y z, vs = [x, y, z] ∧ Dm K B H x a ∧ Dm K B H y b ∧ Dm K B H z c := by
  cases vs with
  | nil => exact h.elim
  | cons x vs =>
    obtain ⟨h1, h2⟩ := h
    obtain ⟨y, z, rfl, h3, h4⟩ := dm2 h2
    exact ⟨x, y, z, rfl, h1, h3, h4⟩
theorem cs_min3 {K : Fg} : CS K rMin3K dMin3 := fun B H vs ds d s h e Q q => by
  unfold dMin3 at e
  split at e
  · cases e
    obtain ⟨x, y, z, rfl, h1, h2, h3⟩ := dm3 h
    rw [h1.int, h2.int, h3.int]
    exact ⟨_, _, _, rfl, q _ B H (Fit.refl s) (.int _)⟩
  · cases e
end Rf
set_option Elab.async false
set_option linter.all false
set_option maxRecDepth 100000
set_option maxHeartbeats 4000000
namespace Lw
open PySem L2 Rf
def a_in_range : AS := (aRet (vAnd (aIsi "int" (aVarM 0)) (vAnd (vNot (aIsi "bool" (aVarM 0))) (aB (aCh dLe dLe (aVarM 1) (aVarM 0) (aVarM 2))))))
def F_in_range : Fn := runF 0 a_in_range
def e_is_table_1 : AE := (aVar 2)
def t_is_table_1 : AT := (tNot' (aTr (aCall F_in_range (aCons (aVar 2) (aCons (aC (.int 0)) (aCons (aC (.int 1)) aNil))))))
def b_is_table_1 : AS := (aSeq (aIfS (tOr' (tNot' (aTr (aIsi "tuple" (aVarM 1)))) (tOr' (tNot' (aCh dLe dLe (aC (.int 1)) (aF dLen (aCons (aVarM 1) aNil)) (aC (.int 5)))) (a2t dNe (aF dLen (aCons (aVarM 1) aNil)) (aF dLen (aCons (a2 dIx (aVarM 0) (aC (.int 0))) aNil))))) (aRet (aC (.bl false))) aSkip)
  (aIfS (aTr (aLst (aLc (aiT (aVar 1)) (agN 2) t_is_table_1 e_is_table_1 [2]))) (aRet (aC (.bl false))) aSkip))
def a_is_table : AS := (aSeq (aIfS (tOr' (tNot' (aTr (aIsi "tuple" (aVarM 0)))) (tNot' (aCh dLe dLe (aC (.int 1)) (aF dLen (aCons (aVarM 0) aNil)) (aC (.int 5))))) (aRet (aC (.bl false))) aSkip)
  (aSeq (aFor (aiT (aVar 0)) (agN 1) b_is_table_1 [1])
  (aRet (aC (.bl true)))))
def F_is_table : Fn := runF 2 a_is_table
def a_check_table : AS := (aIfS (tNot' (aTr (aCall F_is_table (aCons (aVar 0) aNil)))) (aRaise "InvalidTable") aSkip)
def F_check_table : Fn := runF 0 a_check_table
def a__law_cell : AS := (aSeq (aIfS (a2t dLt (aVarM 1) (aF dLen (aCons (aVarM 0) aNil))) (aRet (a2 dIx (aVarM 0) (aVarM 1))) aSkip)
  (aRet (aC (.int 0))))
def F__law_cell : Fn := runF 0 a__law_cell
def b__law_row_1 : AS := (aIfS (a2t dLt (aCall F__law_cell (aCons (aVar 0) (aCons (aVar 1) aNil))) (a2 dPow (aC (.int 10)) (aC (.int 18)))) (aSeq (aSet 2 (a2 dMod (a2 dAdd (a2 dAdd (a2 dAdd (a2 dMul (aVarM 2) (aC (.int 48271))) (a2 dMul (aC (.int 131)) (aVarM 4))) (aC (.int 7))) (aCall F__law_cell (aCons (aVar 0) (aCons (a2 dMod (a2 dAdd (a2 dAdd (aVarM 1) (aC (.int 1))) (aVarM 4)) (aC (.int 20))) aNil)))) (aC (.int 2147483647))))
  (aApp 3 (a2 dMod (a2 dDiv (aVarM 2) (aC (.int 11))) (aC (.int 1000))))) (aSeq (aApp 3 (a2 dMod (aVarM 2) (aC (.int 1000))))
  (aSet 2 (a2 dDiv (aVarM 2) (aC (.int 1000))))))
def a__law_row : AS := (aSeq (aSet 2 (aCall F__law_cell (aCons (aVar 0) (aCons (aVar 1) aNil))))
  (aSeq (aSetM 3 aNil)
  (aSeq (aFor (aiR1 (aCons (aC (.int 60)) aNil)) (agN 4) b__law_row_1 [4])
  (aFrz 3 (aRet (aVar 3))))))
def F__law_row : Fn := runF 3 a__law_row
def b__law_table_1 : AS := (aAppPop 7 6 (a2 dMod (a2 dIx (aVarM 3) (a2 dAdd (aC (.int 2)) (aVarM 8))) (aF dLen (aCons (aVarM 6) aNil))))
def e__law_table_1 : AE := (aF dInt (aCons (aB (aCh dLe dLt (aVarM 11) (a2 dIx (aVarM 7) (aVarM 13)) (a2 dAdd (aVarM 11) (aVarM 12)))) aNil))
def e__law_table_2 : AE := (aF dInt (aCons (a2 (bv dEq) (a2 dMod (a2 dIx (aVarM 3) (a2 dAdd (aC (.int 30)) (a2 dMod (a2 dAdd (a2 dMul (aC (.int 5)) (aVarM 10)) (aVarM 13)) (aC (.int 20))))) (a2 dAdd (aC (.int 2)) (a2 dMod (a2 dIx (aVarM 3) (aC (.int 51))) (aC (.int 2))))) (aC (.int 0))) aNil))
def b__law_table_2 : AS := (aSeq (aSet 11 (a2 dMod (a2 dIx (aVarM 3) (a2 dAdd (aC (.int 10)) (aVarM 10))) (aVarM 5)))
  (aSeq (aSet 12 (a2 dMod (a2 dIx (aVarM 3) (a2 dAdd (aC (.int 20)) (aVarM 10))) (a2 dAdd (aVarM 5) (aC (.int 1)))))
  (aSeq (aSetM 14 (aLc (aiR1 (aCons (aVarM 5) aNil)) (agN 13) aYes e__law_table_1 [13]))
  (aSeq (aIfS (a2t dEq (a2 dMod (a2 dIx (aVarM 3) (aC (.int 50))) (aC (.int 3))) (aC (.int 0))) (aSetM 14 (aLc (aiR1 (aCons (aVarM 5) aNil)) (agN 13) aYes e__law_table_2 [13])) aSkip)
  (aAppMM 9 14)))))
def e__law_table_3 : AE := (aF dTuple (aCons (aVarM 14) aNil))
def a__law_table : AS := (aSeq (aSet 3 (aCall F__law_row (aCons (aVar 0) (aCons (aVar 1) aNil))))
  (aSeq (aPar 4 5 (aCons (a2 dAdd (aC (.int 1)) (a2 dMod (a2 dIx (aVarM 3) (aC (.int 0))) (aVarM 2))) (aCons (a2 dAdd (aC (.int 1)) (a2 dMod (a2 dIx (aVarM 3) (aC (.int 1))) (aVarM 2))) aNil)))
  (aSeq (aTupM 6 7 (alRg (aVarM 5)) aNil)
  (aSeq (aFor (aiR1 (aCons (aVarM 5) aNil)) (agN 8) b__law_table_1 [8])
  (aSeq (aSetMM 9)
  (aSeq (aFor (aiR1 (aCons (aVarM 4) aNil)) (agN 10) b__law_table_2 [10, 11, 12, 14])
  (aSeq (aIfS (a2t dEq (a2 dMod (a2 dIx (aVarM 3) (aC (.int 50))) (aC (.int 3))) (aC (.int 1))) (aSeq (aAsg (aTup (aCons (a2 dMod (a2 dIx (aVarM 3) (aC (.int 52))) (aVarM 4)) (aCons (a2 dMod (a2 dIx (aVarM 3) (aC (.int 53))) (aVarM 5)) aNil))) (agT 2 (agCons (agN 10) (agCons (agN 13) agNil))))
  (aSetIxMM 9 (aVarM 10) (aVarM 13) (a2 dSub (aC (.int 1)) (a2 dIx (aIxMM 9 (aVarM 10)) (aVarM 13))))) aSkip)
  (aFrzMM 9 (aRet (aF dTuple (aCons (aLst (aLc (aiL (aVar 9)) (agN 14) aYes e__law_table_3 [14])) aNil)))))))))))
def F__law_table : Fn := runF 12 a__law_table
def a__law_whole : AS := (aRet (vAnd (aIsi "int" (aVarM 0)) (vNot (aIsi "bool" (aVarM 0)))))
def F__law_whole : Fn := runF 0 a__law_whole
def a__law_in : AS := (aRet (vAnd (aCall F__law_whole (aCons (aVar 0) aNil)) (aB (aCh dLe dLe (aVarM 1) (aVarM 0) (aVarM 2)))))
def F__law_in : Fn := runF 0 a__law_in
def e__law_is_table_1 : AE := (aVar 2)
def t__law_is_table_1 : AT := (tNot' (aTr (aCall F__law_in (aCons (aVar 2) (aCons (aC (.int 0)) (aCons (aC (.int 1)) aNil))))))
def b__law_is_table_1 : AS := (aSeq (aIfS (tOr' (tNot' (aTr (aIsi "tuple" (aVarM 1)))) (tOr' (tNot' (aCh dLe dLe (aC (.int 1)) (aF dLen (aCons (aVarM 1) aNil)) (aC (.int 5)))) (a2t dNe (aF dLen (aCons (aVarM 1) aNil)) (aF dLen (aCons (a2 dIx (aVarM 0) (aC (.int 0))) aNil))))) (aRet (aC (.bl false))) aSkip)
  (aIfS (a2t dNe (aLst (aLc (aiT (aVar 1)) (agN 2) t__law_is_table_1 e__law_is_table_1 [2])) (aLst aNil)) (aRet (aC (.bl false))) aSkip))
def a__law_is_table : AS := (aSeq (aIfS (tOr' (tNot' (aTr (aIsi "tuple" (aVarM 0)))) (tNot' (aCh dLe dLe (aC (.int 1)) (aF dLen (aCons (aVarM 0) aNil)) (aC (.int 5))))) (aRet (aC (.bl false))) aSkip)
  (aSeq (aFor (aiT (aVar 0)) (agN 1) b__law_is_table_1 [1])
  (aRet (aC (.bl true)))))
def F__law_is_table : Fn := runF 2 a__law_is_table
end Lw
set_option Elab.async false
set_option linter.all false
set_option maxRecDepth 100000
set_option maxHeartbeats 4000000
namespace Lw
open PySem L2 Rf

/-! ## loops -/
theorem forL_ind {g : AG} {b : AS} {l : List Nat} (Iv : Nat → En → Prop) : ∀ (ds : List D) (k : Nat) (E : En), (∀ i d E, ds[i]? = some d → Iv (k + i) E → ∃ E1 E2, g d E = some E1 ∧ b E1 = some (.nx E2) ∧ Iv (k + i + 1) (wipeE E2 l)) → Iv k E →
    ∃ E', forL g b l ds E = some (.nx E') ∧ Iv (k + ds.length) E'
  | [], k, E, _, h0 => ⟨E, rfl, h0⟩
  | d :: ds, k, E, h, h0 => by
    obtain ⟨E1, E2, e1, e2, h1⟩ := h 0 d E rfl h0
    obtain ⟨E', e3, h3⟩ := forL_ind (g := g) (b := b) (l := l) Iv ds (k + 1) (wipeE E2 l) (fun i d' E hd hi => by
      have e : k + 1 + i = k + (i + 1) := by omega
      rw [e] at hi ⊢
      exact h (i + 1) d' E (by simpa using hd) hi) h1
    refine ⟨E', ?_, ?_⟩
    · rw [forL, e1]
      dsimp only
      rw [e2]
      exact e3
    · rw [List.length_cons, show k + (ds.length + 1) = k + 1 + ds.length by omega]
      exact h3
theorem forL_ind0 {g : AG} {b : AS} {l : List Nat} {ds : List D} {E : En} (Iv : Nat → En → Prop) (h0 : Iv 0 E) (h : ∀ i d E, ds[i]? = some d → Iv i E → ∃ E1 E2, g d E = some E1 ∧ b E1 = some (.nx E2) ∧ Iv (i + 1) (wipeE E2 l)) :
    ∃ E', forL g b l ds E = some (.nx E') ∧ Iv ds.length E' := by
  obtain ⟨E', h1, h2⟩ := forL_ind (g := g) (b := b) (l := l) Iv ds 0 E (fun i d E hd hi => by
    rw [Nat.zero_add] at hi ⊢
    exact h i d E hd hi) h0
  rw [Nat.zero_add] at h2
  exact ⟨E', h1, h2⟩
/-- a search: each turn goes on with the slots as they were, or hands back r -/
theorem forL_srch {g : AG} {b : AS} {l : List Nat} {E : En} (p : D → Bool) (r : D → D) : ∀ (ds : List D), (∀ d ∈ ds, ∃ E1, g d E = some E1 ∧ (p d = false → ∃ E2, b E1 = some (.nx E2) ∧ wipeE E2 l = E) ∧ (p d = true → b E1 = some (.rt (r d)))) →
    forL g b l ds E = match ds.find? p with
      | some d => some (.rt (r d))
      | none => some (.nx E)
  | [], _ => rfl
  | d :: ds, h => by
    obtain ⟨E1, e1, h1, h2⟩ := h d (List.mem_cons_self ..)
    rw [forL, e1]
    dsimp only
    cases z : p d with
    | true =>
      rw [h2 z, List.find?_cons, z]
    | false =>
      obtain ⟨E2, e2, e3⟩ := h1 z
      rw [e2, List.find?_cons, z]
      dsimp only
      rw [e3]
      exact forL_srch p r ds fun d' hd' => h d' (List.mem_cons_of_mem _ hd')
/-- a comprehension -/
theorem compL_map {ag : AG} {t : AT} {f : AE} {E : En} (p : D → Bool) (y : D → D) : ∀ (ds : List D), (∀ d ∈ ds, ∃ E1, ag d E = some E1 ∧ t E1 = some (p d) ∧ (p d = true → f E1 = some (y d))) → compL ag t f E ds = some ((ds.filter p).map y)
  | [], _ => rfl
  | d :: ds, h => by
    obtain ⟨E1, e1, e2, e3⟩ := h d (List.mem_cons_self ..)
    have ih := compL_map p y ds fun d' hd' => h d' (List.mem_cons_of_mem _ hd')
    rw [compL, e1]
    dsimp only
    rw [e2, ih]
    cases z : p d with
    | true => rw [List.filter_cons_of_pos z, e3 z]; rfl
    | false => rw [List.filter_cons_of_neg (by rw [z]; decide)]
theorem compL_all {ag : AG} {f : AE} {E : En} (y : D → D) (ds : List D) (h : ∀ d ∈ ds, ∃ E1, ag d E = some E1 ∧ f E1 = some (y d)) : compL ag aYes f E ds = some (ds.map y) := by
  rw [compL_map (fun _ => true) y ds fun d hd => by
    obtain ⟨E1, e1, e2⟩ := h d hd
    exact ⟨E1, e1, rfl, fun _ => e2⟩]
  rw [List.filter_eq_self.mpr (fun _ _ => rfl)]

/-! ## the draws -/
theorem cell_eq (ns : List Int) (k : Int) (hk : 0 ≤ k) : ∃ n, F__law_cell [.scr ns, .int k] = some (.ok (.int n)) := by
  unfold F__law_cell a__law_cell
  by_cases h : k < ns.length
  · obtain ⟨j, rfl⟩ : ∃ j : Nat, k = j := ⟨k.toNat, by omega⟩
    have hj : j < ns.length := by omega
    have e : atI ns (j : Int) = some ns[j] := atI_nat (by simp [hj])
    refine ⟨ns[j], ?_⟩
    simp [runF, ofOut, en0, aSeq, aIfS, a2t, aVarM, aF, aCons, aNil, dLen, dC2, aRet, a2, dIx, e, hj]
  · refine ⟨0, ?_⟩
    simp [runF, ofOut, en0, aSeq, aIfS, a2t, aVarM, aF, aCons, aNil, dLen, dC2, aRet, a2, dIx, h, aSkip, aC]
theorem rg_at {lo : Int} {n i : Nat} {d : D} (h : (rg lo n)[i]? = some d) : d = .int (lo + (i : Nat)) ∧ i < n := by
  refine ⟨rg_get h, ?_⟩
  have := (List.getElem?_eq_some_iff.mp h).1
  rwa [rg_len] at this
theorem row_turn (ns : List Int) (at' c0 c : Int) (dr : List Int) (i : Nat) (hc0 : F__law_cell [.scr ns, .int at'] = some (.ok (.int c0))) (ha : 0 ≤ at') (hl : dr.length < 100000) :
    ∃ c' x, b__law_row_1 [.im (.scr ns), .im (.int at'), .im (.int c), .mu (dr.map D.int), .im (.int (0 + (i : Nat)))] = some (.nx [.im (.scr ns), .im (.int at'), .im (.int c'), .mu ((dr ++ [x]).map D.int), .im (.int (0 + (i : Nat)))]) ∧ 0 ≤ x ∧ x < 1000 := by
  obtain ⟨n2, hn2⟩ := cell_eq ns ((at' + 1 + (0 + (i : Nat))) % 20) (by omega)
  unfold b__law_row_1
  by_cases hc : c0 < 10 ^ 18
  · refine ⟨(c * 48271 + 131 * (0 + (i : Nat)) + 7 + n2) % 2147483647, (c * 48271 + 131 * (0 + (i : Nat)) + 7 + n2) % 2147483647 / 11 % 1000, ?_, by omega, by omega⟩
    have hc' : c0 < 1000000000000000000 := by simpa using hc
    rw [Int.zero_add] at hn2
    simp [aIfS, a2t, aCall, aCons, aVar, aNil, hc0, a2, dI2, aC, dC2, hc', aSeq, aSet, aVarM, dMul, dAdd, hn2, aApp, hl]
  · refine ⟨c / 1000, c % 1000, ?_, by omega, by omega⟩
    have hc' : ¬ c0 < 1000000000000000000 := by simpa using hc
    simp [aIfS, a2t, aCall, aCons, aVar, aNil, hc0, a2, dI2, aC, dC2, hc', aSeq, aSet, aVarM, aApp, hl]
theorem row_eq (ns : List Int) (at' : Int) (ha : 0 ≤ at') : ∃ dr : List Int, dr.length = 60 ∧ (∀ x ∈ dr, 0 ≤ x ∧ x < 1000) ∧ F__law_row [.scr ns, .int at'] = some (.ok (.lst (dr.map D.int))) := by
  obtain ⟨c0, hc0⟩ := cell_eq ns at' ha
  obtain ⟨E', h1, c, dr, rfl, hl, hb⟩ := forL_ind0 (g := agN 4) (ds := rg 0 60) (l := [4]) (b := b__law_row_1) (E := [.im (.scr ns), .im (.int at'), .im (.int c0), .mu [], .no])
    (fun i E => ∃ (c : Int) (dr : List Int), E = [.im (.scr ns), .im (.int at'), .im (.int c), .mu (dr.map D.int), .no] ∧ dr.length = i ∧ ∀ x ∈ dr, 0 ≤ x ∧ x < 1000)
    ⟨c0, [], rfl, rfl, fun x hx => (nomatch hx)⟩ (fun i d E hd ⟨c, dr, hE, hl, hb⟩ => by
      subst hE
      obtain ⟨rfl, hi⟩ := rg_at hd
      obtain ⟨c', x, e, h0, h1⟩ := row_turn ns at' c0 c dr i hc0 ha (by omega)
      refine ⟨_, _, rfl, e, c', dr ++ [x], rfl, by rw [List.length_append, hl]; rfl, fun y hy => ?_⟩
      rcases List.mem_append.mp hy with h | h
      · exact hb y h
      · rw [List.mem_singleton.mp h]
        exact ⟨h0, h1⟩)
  rw [rg_len] at hl
  refine ⟨dr, hl, hb, ?_⟩
  unfold F__law_row a__law_row
  simp [runF, en0, aSeq, aSet, aCall, aCons, aVar, aNil, hc0, aSetM, aFor, aiR1, aC, wipeE, h1, aFrz, aRet, ofOut]
/-! ## tables -/
abbrev Tb := List (List Bool)
def bI (b : Bool) : D := .int (if b then 1 else 0)
def encR (r : List Bool) : D := .tup (r.map bI)
def encT (t : Tb) : D := .tup (t.map encR)
/-- r rows and c columns -/
structure Sz (t : Tb) (r c : Nat) : Prop where
  len : t.length = r
  row : ∀ x ∈ t, x.length = c
theorem atI_lit {α : Type} (xs : List α) (k : Nat) (h : k < xs.length) : atI xs (k : Int) = some xs[k] := atI_nat (by simp [h])
/-- the k-th draw -/
theorem dix {dr : List Int} (hl : dr.length = 60) (k : Nat) (h : k < 60) : dIx (.lst (dr.map D.int)) (.int (k : Nat)) = some (.int (dr.getD k 0)) := by
  have e : atI (dr.map D.int) (k : Int) = some (D.int (dr.getD k 0)) := atI_nat (by simp [hl, h])
  exact e
theorem dr_in {dr : List Int} (hl : dr.length = 60) (hb : ∀ x ∈ dr, 0 ≤ x ∧ x < 1000) (k : Nat) (h : k < 60) : 0 ≤ dr.getD k 0 ∧ dr.getD k 0 < 1000 := by
  have e : dr.getD k 0 = dr[k]'(by omega) := by simp [hl, h]
  rw [e]
  exact hb _ (List.getElem_mem _)
theorem map_erase {α β : Type} (f : α → β) : ∀ (l : List α) (i : Nat), (l.map f).eraseIdx i = (l.eraseIdx i).map f
  | [], _ => rfl
  | _ :: _, 0 => rfl
  | a :: l, i + 1 => by
    show f a :: (l.map f).eraseIdx i = f a :: (l.eraseIdx i).map f
    rw [map_erase f l i]
theorem compL_bits {ag : AG} {f : AE} {E : En} : ∀ (ds : List D), (∀ d ∈ ds, ∃ E1 b, ag d E = some E1 ∧ f E1 = some (bI b)) → ∃ bs : List Bool, bs.length = ds.length ∧ compL ag aYes f E ds = some (bs.map bI)
  | [], _ => ⟨[], rfl, rfl⟩
  | d :: ds, h => by
    obtain ⟨E1, b, e1, e2⟩ := h d (List.mem_cons_self ..)
    obtain ⟨bs, hl, ih⟩ := compL_bits ds fun d' hd' => h d' (List.mem_cons_of_mem _ hd')
    refine ⟨b :: bs, by rw [List.length_cons, List.length_cons, hl], ?_⟩
    rw [compL, e1]
    dsimp only
    rw [show aYes E1 = some true from rfl]
    dsimp only
    rw [e2, ih]
    rfl
section
variable (ns : List Int) (at' most : Int) (dr : List Int)
def envT (R C : Nat) (lf od : List Int) (tb : Option Tb) : En :=
  [.im (.scr ns), .im (.int at'), .im (.int most), .im (.lst (dr.map D.int)), .im (.int (R : Nat)), .im (.int (C : Nat)), .mu (lf.map D.int), .mu (od.map D.int), .no, (match tb with | some t => .mm (t.map fun r => r.map bI) | none => .no), .no, .no, .no, .no, .no]
variable {ns at' most dr} (hl : dr.length = 60) (hb : ∀ x ∈ dr, 0 ≤ x ∧ x < 1000)
include hl hb
theorem tab_turn1 {R C : Nat} {lf od : List Int} {i : Nat} (hC : C ≤ 5) (hi : i < C) (h1 : lf.length = C - i) (h2 : od.length = i) :
    ∃ lf' x, b__law_table_1 ((envT ns at' most dr R C lf od none).set 8 (.im (.int (0 + (i : Nat))))) = some (.nx ((envT ns at' most dr R C lf' (od ++ [x]) none).set 8 (.im (.int (0 + (i : Nat)))))) ∧ lf'.length = C - (i + 1) := by
  have hd := dix hl (2 + i) (by omega)
  have e2 : ((2 + i : Nat) : Int) = 2 + ((0 : Int) + (i : Nat)) := by omega
  rw [e2] at hd
  obtain ⟨b1, b2⟩ := dr_in hl hb (2 + i) (by omega)
  have hpos : (0 : Int) < (lf.length : Nat) := by omega
  have hm0 := Int.emod_nonneg (dr.getD (2 + i) 0) (show (lf.length : Int) ≠ 0 by omega)
  have hm1 := Int.emod_lt_of_pos (dr.getD (2 + i) 0) hpos
  have hlt : (dr.getD (2 + i) 0 % (lf.length : Int)).toNat < lf.length := by omega
  refine ⟨lf.eraseIdx (dr.getD (2 + i) 0 % (lf.length : Int)).toNat, lf[(dr.getD (2 + i) 0 % (lf.length : Int)).toNat], ?_, ?_⟩
  · unfold b__law_table_1 envT
    have hg : (lf.map D.int)[(dr.getD (2 + i) 0 % (lf.length : Int)).toNat]? = some (D.int lf[(dr.getD (2 + i) 0 % (lf.length : Int)).toNat]) := by
      rw [List.getElem?_map, List.getElem?_eq_getElem hlt]; rfl
    have hod : (od.map D.int).length < 100000 := by rw [List.length_map]; omega
    have hk : (0 : Int) ≤ dr.getD (2 + i) 0 % (lf.length : Int) ∧ dr.getD (2 + i) 0 % (lf.length : Int) < 100000 := ⟨hm0, by omega⟩
    have step : (a2 dMod (a2 dIx (aVarM 3) (a2 dAdd (aC (.int 2)) (aVarM 8))) (aF dLen (aCons (aVarM 6) aNil))) ((envT ns at' most dr R C lf od none).set 8 (.im (.int (0 + (i : Nat))))) = some (.int (dr.getD (2 + i) 0 % (lf.length : Int))) := by
      unfold envT
      simp only [a2, aVarM, aC, aF, aCons, aNil, List.set, List.getElem?_cons_zero, List.getElem?_cons_succ, dAdd, hd, dLen, List.length_map, dI2, decide_eq_true hpos, if_true]
    unfold envT at step
    unfold aAppPop
    simp only [List.set, List.getElem?_cons_zero, List.getElem?_cons_succ]
    simp only [List.set] at step
    rw [step]
    simp only [ne_eq, Nat.reduceEqDiff, not_false_eq_true, hod, hk.1, hk.2, and_self, if_true, hg]
    congr 2
    simp only [List.map_append, List.map_cons, List.map_nil, map_erase]
  · rw [List.length_eraseIdx, if_pos hlt]
    omega
theorem tab_loop1 {R C : Nat} (hC : C ≤ 5) {lf : List Int} (h1 : lf.length = C) :
    ∃ lf' od, forL (agN 8) b__law_table_1 [8] (rg 0 C) (envT ns at' most dr R C lf [] none) = some (.nx (envT ns at' most dr R C lf' od none)) ∧ od.length = C := by
  obtain ⟨E', e, lf', od, rfl, h2, h3⟩ := forL_ind0 (g := agN 8) (b := b__law_table_1) (l := [8]) (ds := rg 0 C) (E := envT ns at' most dr R C lf [] none)
    (fun i E => ∃ lf' od, E = envT ns at' most dr R C lf' od none ∧ lf'.length = C - i ∧ od.length = i) ⟨lf, [], rfl, by omega, rfl⟩ (fun i d E hd ⟨lf', od, hE, k1, k2⟩ => by
      subst hE
      obtain ⟨rfl, hi⟩ := rg_at hd
      obtain ⟨lf2, x, e, k3⟩ := tab_turn1 hl hb (ns := ns) (at' := at') (most := most) (R := R) hC hi k1 k2
      exact ⟨_, _, rfl, e, lf2, od ++ [x], rfl, k3, by rw [List.length_append, k2]; rfl⟩)
  rw [rg_len] at h3
  exact ⟨lf', od, e, h3⟩
theorem rg_mem {lo : Int} {n : Nat} {d : D} (h : d ∈ rg lo n) : ∃ i : Nat, i < n ∧ d = .int (lo + (i : Nat)) := by
  obtain ⟨i, hi⟩ := List.getElem?_of_mem h
  obtain ⟨h1, h2⟩ := rg_at hi
  exact ⟨i, h2, h1⟩
theorem tab_turn2 {R C : Nat} {lf od : List Int} {tb : Tb} {i : Nat} (hC : C ≤ 5) (hC0 : 0 < C) (hi : i < 5) (h2 : od.length = C) (h3 : tb.length = i) :
    ∃ bs E2, b__law_table_2 ((envT ns at' most dr R C lf od (some tb)).set 10 (.im (.int (0 + (i : Nat))))) = some (.nx E2) ∧ wipeE E2 [10, 11, 12, 14] = envT ns at' most dr R C lf od (some (tb ++ [bs])) ∧ bs.length = C := by
  have d10 := dix hl (10 + i) (by omega)
  have d20 := dix hl (20 + i) (by omega)
  have d50 := dix hl 50 (by omega)
  have d51 := dix hl 51 (by omega)
  rw [show ((10 + i : Nat) : Int) = 10 + ((0 : Int) + (i : Nat)) by omega] at d10
  rw [show ((20 + i : Nat) : Int) = 20 + ((0 : Int) + (i : Nat)) by omega] at d20
  rw [show ((50 : Nat) : Int) = 50 from rfl] at d50
  rw [show ((51 : Nat) : Int) = 51 from rfl] at d51
  have hCp : (0 : Int) < (C : Nat) := by omega
  have hC1 : (0 : Int) < (C : Int) + 1 := by omega
  have hCb : ((C : Nat) : Int) ≤ 100000 ∧ (-100000 : Int) ≤ (C : Nat) := by omega
  -- the line as drawn
  have hrow : ∀ st sz : Int, ∃ bs : List Bool, bs.length = C ∧ aLc (aiR1 (aCons (aVarM 5) aNil)) (agN 13) aYes e__law_table_1 [13]
      [.im (.scr ns), .im (.int at'), .im (.int most), .im (.lst (dr.map D.int)), .im (.int (R : Nat)), .im (.int (C : Nat)), .mu (lf.map D.int), .mu (od.map D.int), .no, .mm (tb.map fun r => r.map bI), .im (.int (0 + (i : Nat))), .im (.int st), .im (.int sz), .no, .no] = some (bs.map bI) := fun st sz => by
    obtain ⟨bs, hbs, e⟩ := compL_bits (ag := agN 13) (f := e__law_table_1) (E := [.im (.scr ns), .im (.int at'), .im (.int most), .im (.lst (dr.map D.int)), .im (.int (R : Nat)), .im (.int (C : Nat)), .mu (lf.map D.int), .mu (od.map D.int), .no, .mm (tb.map fun r => r.map bI), .im (.int (0 + (i : Nat))), .im (.int st), .im (.int sz), .no, .no]) (rg 0 C) (fun d hd => by
      obtain ⟨j, hj, rfl⟩ := rg_mem hl hb hd
      have hod : atI (od.map D.int) (0 + (j : Nat)) = some (.int (od.getD j 0)) := by
        rw [Int.zero_add]
        exact atI_nat (by simp [h2, hj])
      by_cases c1 : st ≤ od.getD j 0
      · exact ⟨_, decide (od.getD j 0 < st + sz), rfl, by simp only [e__law_table_1, aF, aCons, aNil, aB, aCh, aVarM, a2, dIx, hod, dC2, decide_eq_true c1, dAdd, dInt, bI, List.set, List.getElem?_cons_zero, List.getElem?_cons_succ]⟩
      · exact ⟨_, false, rfl, by simp only [e__law_table_1, aF, aCons, aNil, aB, aCh, aVarM, a2, dIx, hod, dC2, decide_eq_false c1, dAdd, dInt, bI, List.set, List.getElem?_cons_zero, List.getElem?_cons_succ]⟩)
    rw [rg_len] at hbs
    refine ⟨bs, hbs, ?_⟩
    simp only [aLc, aiR1, aCons, aVarM, aNil, List.getElem?_cons_zero, List.getElem?_cons_succ, if_pos hCb, Int.toNat_natCast, wipeE, List.set]
    exact e
  have hrow2 : ∀ (st sz : Int) (ln : List D), ∃ bs : List Bool, bs.length = C ∧ aLc (aiR1 (aCons (aVarM 5) aNil)) (agN 13) aYes e__law_table_2 [13]
      [.im (.scr ns), .im (.int at'), .im (.int most), .im (.lst (dr.map D.int)), .im (.int (R : Nat)), .im (.int (C : Nat)), .mu (lf.map D.int), .mu (od.map D.int), .no, .mm (tb.map fun r => r.map bI), .im (.int (0 + (i : Nat))), .im (.int st), .im (.int sz), .no, .mu ln] = some (bs.map bI) := fun st sz ln => by
    obtain ⟨bs, hbs, e⟩ := compL_bits (ag := agN 13) (f := e__law_table_2) (E := [.im (.scr ns), .im (.int at'), .im (.int most), .im (.lst (dr.map D.int)), .im (.int (R : Nat)), .im (.int (C : Nat)), .mu (lf.map D.int), .mu (od.map D.int), .no, .mm (tb.map fun r => r.map bI), .im (.int (0 + (i : Nat))), .im (.int st), .im (.int sz), .no, .mu ln]) (rg 0 C) (fun d hd => by
      obtain ⟨j, hj, rfl⟩ := rg_mem hl hb hd
      obtain ⟨b1, b2⟩ := dr_in hl hb 51 (by omega)
      have hm0 := Int.emod_nonneg (5 * ((0 : Int) + (i : Nat)) + (0 + (j : Nat))) (show (20 : Int) ≠ 0 by decide)
      have hm1 := Int.emod_lt_of_pos (5 * ((0 : Int) + (i : Nat)) + (0 + (j : Nat))) (show (0 : Int) < 20 by decide)
      have d30 := dix hl (30 + ((5 * ((0 : Int) + (i : Nat)) + (0 + (j : Nat))) % 20).toNat) (by omega)
      rw [show ((30 + ((5 * ((0 : Int) + (i : Nat)) + (0 + (j : Nat))) % 20).toNat : Nat) : Int) = 30 + (5 * ((0 : Int) + (i : Nat)) + (0 + (j : Nat))) % 20 by omega] at d30
      have hp : (0 : Int) < 2 + dr.getD 51 0 % 2 := by omega
      refine ⟨_, decide (dr.getD (30 + ((5 * ((0 : Int) + (i : Nat)) + (0 + (j : Nat))) % 20).toNat) 0 % (2 + dr.getD 51 0 % 2) = 0), rfl, ?_⟩
      simp only [e__law_table_2, aF, aCons, aNil, a2, aC, aVarM, List.set, List.getElem?_cons_zero, List.getElem?_cons_succ, dMul, dAdd, dI2, Int.reduceLT, decide_true, if_true, d30, d51, decide_eq_true hp, bv, dEq, pl, deq, dInt, bI, Bool.and_self, show (decide ((5 : Int).natAbs < 2 ^ 64) || decide (((0 : Int) + (i : Nat)).natAbs < 2 ^ 64)) = true by simp]
      by_cases c : dr.getD (30 + ((5 * ((0 : Int) + (i : Nat)) + (0 + (j : Nat))) % 20).toNat) 0 % (2 + dr.getD 51 0 % 2) = 0
      · rw [c]; rfl
      · rw [show (dr.getD (30 + ((5 * ((0 : Int) + (i : Nat)) + (0 + (j : Nat))) % 20).toNat) 0 % (2 + dr.getD 51 0 % 2) == 0) = false by simpa using c, decide_eq_false c])
    rw [rg_len] at hbs
    refine ⟨bs, hbs, ?_⟩
    simp only [aLc, aiR1, aCons, aVarM, aNil, List.getElem?_cons_zero, List.getElem?_cons_succ, if_pos hCb, Int.toNat_natCast, wipeE, List.set]
    exact e
  obtain ⟨bs, hbs, e1⟩ := hrow (dr.getD (10 + i) 0 % (C : Nat)) (dr.getD (20 + i) 0 % ((C : Int) + 1))
  obtain ⟨bs2, hbs2, e2⟩ := hrow2 (dr.getD (10 + i) 0 % (C : Nat)) (dr.getD (20 + i) 0 % ((C : Int) + 1)) (bs.map bI)
  have htb : (tb.map fun r => r.map bI).length < 1000 := by rw [List.length_map]; omega
  by_cases c : dr.getD 50 0 % 3 = 0
  · refine ⟨bs2, [.im (.scr ns), .im (.int at'), .im (.int most), .im (.lst (dr.map D.int)), .im (.int (R : Nat)), .im (.int (C : Nat)), .mu (lf.map D.int), .mu (od.map D.int), .no, .mm ((tb.map fun r => r.map bI) ++ [bs2.map bI]), .im (.int (0 + (i : Nat))), .im (.int (dr.getD (10 + i) 0 % (C : Nat))), .im (.int (dr.getD (20 + i) 0 % ((C : Int) + 1))), .no, .no], ?_, ?_, hbs2⟩
    · unfold b__law_table_2 envT
      simp only [aSeq, aSet, aSetM, a2, aC, aVarM, List.set, List.getElem?_cons_zero, List.getElem?_cons_succ, dAdd, dI2, d10, d20, d50, decide_eq_true hCp, decide_eq_true hC1, if_true, e1, aIfS, a2t, dEq, pl, deq, Bool.and_self, Int.reduceLT, decide_true, c, beq_self_eq_true, e2, aAppMM, ne_eq, Nat.reduceEqDiff, not_false_eq_true, htb, and_self]
    · unfold envT
      simp [wipeE]
  · refine ⟨bs, [.im (.scr ns), .im (.int at'), .im (.int most), .im (.lst (dr.map D.int)), .im (.int (R : Nat)), .im (.int (C : Nat)), .mu (lf.map D.int), .mu (od.map D.int), .no, .mm ((tb.map fun r => r.map bI) ++ [bs.map bI]), .im (.int (0 + (i : Nat))), .im (.int (dr.getD (10 + i) 0 % (C : Nat))), .im (.int (dr.getD (20 + i) 0 % ((C : Int) + 1))), .no, .no], ?_, ?_, hbs⟩
    · unfold b__law_table_2 envT
      simp only [aSeq, aSet, aSetM, a2, aC, aVarM, List.set, List.getElem?_cons_zero, List.getElem?_cons_succ, dAdd, dI2, d10, d20, d50, decide_eq_true hCp, decide_eq_true hC1, if_true, e1, aIfS, a2t, dEq, pl, deq, Bool.and_self, Int.reduceLT, decide_true, show (dr.getD 50 0 % 3 == 0) = false by simpa using c, aSkip, aAppMM, ne_eq, Nat.reduceEqDiff, not_false_eq_true, htb, and_self]
    · unfold envT
      simp [wipeE]
theorem tab_loop2 {R C : Nat} {lf od : List Int} (hR : R ≤ 5) (hC : C ≤ 5) (hC0 : 0 < C) (h2 : od.length = C) :
    ∃ tb : Tb, forL (agN 10) b__law_table_2 [10, 11, 12, 14] (rg 0 R) (envT ns at' most dr R C lf od (some [])) = some (.nx (envT ns at' most dr R C lf od (some tb))) ∧ Sz tb R C := by
  obtain ⟨E', e, tb, rfl, h3⟩ := forL_ind0 (g := agN 10) (b := b__law_table_2) (l := [10, 11, 12, 14]) (ds := rg 0 R) (E := envT ns at' most dr R C lf od (some []))
    (fun i E => ∃ tb, E = envT ns at' most dr R C lf od (some tb) ∧ Sz tb i C) ⟨[], rfl, rfl, fun x hx => (nomatch hx)⟩ (fun i d E hd ⟨tb, hE, k1⟩ => by
      subst hE
      obtain ⟨rfl, hi⟩ := rg_at hd
      obtain ⟨bs, E2, e1, e2, k2⟩ := tab_turn2 hl hb (ns := ns) (at' := at') (most := most) (R := R) (lf := lf) hC hC0 (show i < 5 by omega) h2 k1.len
      refine ⟨_, E2, rfl, e1, tb ++ [bs], e2, by rw [List.length_append, k1.len]; rfl, fun x hx => ?_⟩
      rcases List.mem_append.mp hx with h | h
      · exact k1.row x h
      · rw [List.mem_singleton.mp h]
        exact k2)
  rw [rg_len] at h3
  exact ⟨tb, e, h3⟩
end
/-- a table of at most n rows and columns -/
def Ok (n : Nat) (t : Tb) : Prop := ∃ r c, Sz t r c ∧ 1 ≤ r ∧ r ≤ n ∧ 1 ≤ c ∧ c ≤ n
theorem tup_rows (t : Tb) (E : En) (hE : E.length = 15) : compL (agN 14) aYes e__law_table_3 E (t.map fun r => D.lst (r.map bI)) = some (t.map encR) := by
  rw [compL_all (fun d => match d with | .lst ds => .tup ds | _ => .non) _ (fun d hd => by
    obtain ⟨r, _, rfl⟩ := List.mem_map.mp hd
    refine ⟨_, rfl, ?_⟩
    simp [e__law_table_3, aF, aCons, aVarM, aNil, dTuple, hE]), List.map_map]
  rfl
theorem bI_not (b : Bool) : D.int (1 - (if b then 1 else 0)) = bI (!b) := by cases b <;> rfl
theorem set_map {α β : Type} (f : α → β) : ∀ (l : List α) (i : Nat) (a : α), (l.map f).set i (f a) = (l.set i a).map f
  | [], _, _ => rfl
  | _ :: _, 0, _ => rfl
  | b :: l, i + 1, a => by
    show f b :: (l.map f).set i (f a) = f b :: (l.set i a).map f
    rw [set_map f l i a]
theorem Sz.flip {t : Tb} {r c : Nat} (h : Sz t r c) (n m : Nat) (b : Bool) (hn : n < t.length) : Sz (t.set n (t[n].set m b)) r c :=
  ⟨by rw [List.length_set]; exact h.len, fun x hx => by
    rcases List.mem_or_eq_of_mem_set hx with y | y
    · exact h.row x y
    · rw [y, List.length_set]
      exact h.row _ (List.getElem_mem _)⟩
def tl__law_table : AS := aSeq (aIfS (a2t dEq (a2 dMod (a2 dIx (aVarM 3) (aC (.int 50))) (aC (.int 3))) (aC (.int 1))) (aSeq (aAsg (aTup (aCons (a2 dMod (a2 dIx (aVarM 3) (aC (.int 52))) (aVarM 4)) (aCons (a2 dMod (a2 dIx (aVarM 3) (aC (.int 53))) (aVarM 5)) aNil))) (agT 2 (agCons (agN 10) (agCons (agN 13) agNil)))) (aSetIxMM 9 (aVarM 10) (aVarM 13) (a2 dSub (aC (.int 1)) (a2 dIx (aIxMM 9 (aVarM 10)) (aVarM 13))))) aSkip) (aFrzMM 9 (aRet (aF dTuple (aCons (aLst (aLc (aiL (aVar 9)) (agN 14) aYes e__law_table_3 [14])) aNil))))
theorem table_eq (ns : List Int) (at' : Int) (most : Nat) (ha : 0 ≤ at') (hm : 1 ≤ most) (hm5 : most ≤ 5) : ∃ t : Tb, Ok most t ∧ F__law_table [.scr ns, .int at', .int most] = some (.ok (encT t)) := by
  obtain ⟨dr, hl, hb, hrow⟩ := row_eq ns at' ha
  have hmp : (0 : Int) < (most : Nat) := by omega
  have d0 := dix hl 0 (by omega)
  have d1 := dix hl 1 (by omega)
  have d50 := dix hl 50 (by omega)
  have d52 := dix hl 52 (by omega)
  have d53 := dix hl 53 (by omega)
  rw [show ((0 : Nat) : Int) = 0 from rfl] at d0
  rw [show ((1 : Nat) : Int) = 1 from rfl] at d1
  rw [show ((50 : Nat) : Int) = 50 from rfl] at d50
  rw [show ((52 : Nat) : Int) = 52 from rfl] at d52
  rw [show ((53 : Nat) : Int) = 53 from rfl] at d53
  have m0 := Int.emod_nonneg (dr.getD 0 0) (show (most : Int) ≠ 0 by omega)
  have m0' := Int.emod_lt_of_pos (dr.getD 0 0) hmp
  have m1 := Int.emod_nonneg (dr.getD 1 0) (show (most : Int) ≠ 0 by omega)
  have m1' := Int.emod_lt_of_pos (dr.getD 1 0) hmp
  obtain ⟨R, hR⟩ : ∃ R : Nat, 1 + dr.getD 0 0 % (most : Nat) = (R : Nat) := ⟨(1 + dr.getD 0 0 % (most : Nat)).toNat, by omega⟩
  obtain ⟨C, hC⟩ : ∃ C : Nat, 1 + dr.getD 1 0 % (most : Nat) = (C : Nat) := ⟨(1 + dr.getD 1 0 % (most : Nat)).toNat, by omega⟩
  have hR1 : 1 ≤ R ∧ R ≤ most := by omega
  have hC1 : 1 ≤ C ∧ C ≤ most := by omega
  have hRb : ((R : Nat) : Int) ≤ 100000 ∧ (-100000 : Int) ≤ (R : Nat) := by omega
  have hCb : ((C : Nat) : Int) ≤ 100000 ∧ (-100000 : Int) ≤ (C : Nat) := by omega
  have elf : ((List.range C).map fun i => D.int (i : Nat)) = ((List.range C).map fun i => ((i : Nat) : Int)).map D.int := by rw [List.map_map]; rfl
  obtain ⟨lf, od, l1, hod⟩ := tab_loop1 hl hb (ns := ns) (at' := at') (most := (most : Nat)) (R := R) (C := C) (by omega) (lf := (List.range C).map fun i => ((i : Nat) : Int)) (by rw [List.length_map, List.length_range])
  obtain ⟨tb, l2, hsz⟩ := tab_loop2 hl hb (ns := ns) (at' := at') (most := (most : Nat)) (lf := lf) (R := R) (C := C) (by omega) (by omega) (by omega) hod
  unfold envT at l1 l2
  have hRp : (0 : Int) < (R : Nat) := by omega
  have hCp : (0 : Int) < (C : Nat) := by omega
  have hrl : ∀ t : Tb, Sz t R C → (t.map fun r => D.lst (r.map bI)).length ≤ 100000 := fun t h => by rw [List.length_map, h.len]; omega
  have fin : ∀ (t : Tb) (x10 x13 : Sl), Sz t R C → aFrzMM 9 (aRet (aF dTuple (aCons (aLst (aLc (aiL (aVar 9)) (agN 14) aYes e__law_table_3 [14])) aNil)))
      [.im (.scr ns), .im (.int at'), .im (.int (most : Nat)), .im (.lst (dr.map D.int)), .im (.int (R : Nat)), .im (.int (C : Nat)), .mu (lf.map D.int), .mu (od.map D.int), .no, .mm (t.map fun r => r.map bI), x10, .no, .no, x13, .no] = some (.rt (encT t)) := fun t x10 x13 ht => by
    have e : ((t.map fun r => r.map bI).map D.lst) = t.map fun r => D.lst (r.map bI) := by rw [List.map_map]; rfl
    simp only [aFrzMM, List.getElem?_cons_zero, List.getElem?_cons_succ, List.set, e, aRet, aF, aCons, aLst, aLc, aiL, aVar, if_pos (hrl t ht), wipeE]
    rw [tup_rows t _ (by rfl)]
    rfl
  have hst : ∀ o, tl__law_table [.im (.scr ns), .im (.int at'), .im (.int (most : Nat)), .im (.lst (dr.map D.int)), .im (.int (R : Nat)), .im (.int (C : Nat)), .mu (lf.map D.int), .mu (od.map D.int), .no, .mm (tb.map fun r => r.map bI), .no, .no, .no, .no, .no] = o →
      F__law_table [.scr ns, .int at', .int (most : Nat)] = ofOut o := fun o ho => by
    unfold F__law_table a__law_table runF
    rw [← ho]
    simp only [en0, List.map_cons, List.map_nil, List.replicate, List.cons_append, List.nil_append]
    have hR2 : (1 : Int) + dr.getD 0 0 % (most : Nat) = (R : Nat) := hR
    simp only [aSeq, aSet, aCall, aCons, aVar, aNil, List.getElem?_cons_zero, List.getElem?_cons_succ, hrow, List.set, aPar, a2, aC, aVarM, d0, d1, dI2, decide_eq_true hmp, if_true, dAdd, hR2, hC, aTupM, alRg, if_pos hCb, Int.toNat_natCast, elf, ne_eq, Nat.reduceEqDiff, not_false_eq_true, aFor, aiR1, wipeE]
    rw [show (Sl.mu ([] : List D)) = Sl.mu (([] : List Int).map D.int) from rfl]
    simp only [l1, aSetMM, List.set, List.getElem?_cons_zero, List.getElem?_cons_succ, aCons, aVarM, aNil, if_pos hRb, Int.toNat_natCast]
    rw [show (Sl.mm ([] : List (List D))) = Sl.mm (([] : Tb).map fun r => r.map bI) from rfl]
    simp only [l2]
    rfl
  by_cases c : dr.getD 50 0 % 3 = 1
  · have n0 := Int.emod_nonneg (dr.getD 52 0) (show (R : Int) ≠ 0 by omega)
    have n1 := Int.emod_lt_of_pos (dr.getD 52 0) hRp
    have k0 := Int.emod_nonneg (dr.getD 53 0) (show (C : Int) ≠ 0 by omega)
    have k1 := Int.emod_lt_of_pos (dr.getD 53 0) hCp
    obtain ⟨n, hn⟩ : ∃ n : Nat, dr.getD 52 0 % (R : Nat) = (n : Nat) := ⟨(dr.getD 52 0 % (R : Nat)).toNat, by omega⟩
    obtain ⟨m, hmm⟩ : ∃ m : Nat, dr.getD 53 0 % (C : Nat) = (m : Nat) := ⟨(dr.getD 53 0 % (C : Nat)).toNat, by omega⟩
    have hnl : n < tb.length := by rw [hsz.len]; omega
    have hml : m < tb[n].length := by rw [hsz.row _ (List.getElem_mem _)]; omega
    have g1 : (tb.map fun r => r.map bI)[n]? = some (tb[n].map bI) := by rw [List.getElem?_map, List.getElem?_eq_getElem hnl]; rfl
    have g2 : atI (tb[n].map bI) (m : Nat) = some (.int (if tb[n][m] then 1 else 0)) := atI_nat (by rw [List.getElem?_map, List.getElem?_eq_getElem hml]; rfl)
    have hml' : m < (tb[n].map bI).length := by rw [List.length_map]; exact hml
    refine ⟨tb.set n (tb[n].set m (!tb[n][m])), ⟨R, C, hsz.flip n m _ hnl, hR1.1, hR1.2, hC1.1, hC1.2⟩, ?_⟩
    rw [hst (some (.rt (encT (tb.set n (tb[n].set m (!tb[n][m])))))) ?_]
    · rfl
    · simp only [tl__law_table, aSeq, aIfS, a2t, a2, dIx, aVarM, aC, List.getElem?_cons_zero, List.getElem?_cons_succ]
      have d50' : atI (dr.map D.int) 50 = some (.int (dr.getD 50 0)) := d50
      have d52' : atI (dr.map D.int) 52 = some (.int (dr.getD 52 0)) := d52
      have d53' : atI (dr.map D.int) 53 = some (.int (dr.getD 53 0)) := d53
      have n00 : (0 : Int) ≤ (n : Nat) := by omega
      have m00 : (0 : Int) ≤ (m : Nat) := by omega
      simp only [d50', dI2, Int.reduceLT, decide_true, if_true, dEq, pl, Bool.and_self, deq, c, beq_self_eq_true, aAsg, aTup, aCons, aNil, a2, dIx, aVarM, aC, List.getElem?_cons_zero, List.getElem?_cons_succ, d52', d53', decide_eq_true hRp, decide_eq_true hCp, hn, hmm, agT, agCons, agN, agNil, List.length_cons, List.length_nil, List.set, aSetIxMM, aIxMM, if_pos n00, Int.toNat_natCast, g1, g2, n00, m00, and_self, if_pos hml', bI_not, set_map]
      exact fin _ _ _ (hsz.flip n m _ hnl)
  · refine ⟨tb, ⟨R, C, hsz, hR1.1, hR1.2, hC1.1, hC1.2⟩, ?_⟩
    rw [hst (some (.rt (encT tb))) ?_]
    · rfl
    · simp only [tl__law_table, aSeq, aIfS, a2t, a2, aVarM, aC, List.getElem?_cons_zero, List.getElem?_cons_succ, d50, dI2, Int.reduceLT, decide_true, if_true, dEq, pl, Bool.and_self, deq, show (dr.getD 50 0 % 3 == 1) = false by simpa using c, aSkip]
      exact fin tb .no .no hsz
end Lw
set_option Elab.async false
set_option linter.all false
set_option maxRecDepth 100000
set_option maxHeartbeats 4000000
namespace Lw
open PySem L2 Rf
/-! ## is_table -/
def inR (lo hi : Int) : D → Bool
  | .int i => decide (lo ≤ i) && decide (i ≤ hi)
  | _ => false
theorem in_range_eq {x : D} {n : Nat} (lo hi : Int) (h : pl x n = true) : F_in_range [x, .int lo, .int hi] = some (.ok (.bl (inR lo hi x))) := by
  unfold F_in_range a_in_range
  cases x with
  | int i =>
    by_cases c : lo ≤ i
    · simp [runF, ofOut, en0, aRet, vAnd, aIsi, aVarM, isiD, vNot, aB, aCh, dC2, c, inR]
    · simp [runF, ofOut, en0, aRet, vAnd, aIsi, aVarM, isiD, vNot, aB, aCh, dC2, c, inR]
  | scr _ => rw [pl] at h; cases h
  | obj _ => rw [pl] at h; cases h
  | _ => simp [runF, ofOut, en0, aRet, vAnd, aIsi, aVarM, isiD, vNot, aB, aCh, dC2, inR]
theorem law_in_eq {x : D} {n : Nat} (lo hi : Int) (h : pl x n = true) : F__law_in [x, .int lo, .int hi] = some (.ok (.bl (inR lo hi x))) := by
  unfold F__law_in a__law_in F__law_whole a__law_whole
  cases x with
  | int i =>
    by_cases c : lo ≤ i
    · simp [runF, ofOut, en0, aRet, vAnd, aIsi, aVar, aCons, aNil, aCall, aVarM, isiD, vNot, aB, aCh, dC2, c, inR]
    · simp [runF, ofOut, en0, aRet, vAnd, aIsi, aVar, aCons, aNil, aCall, aVarM, isiD, vNot, aB, aCh, dC2, c, inR]
  | scr _ => rw [pl] at h; cases h
  | obj _ => rw [pl] at h; cases h
  | _ => simp [runF, ofOut, en0, aRet, vAnd, aIsi, aVar, aCons, aNil, aCall, aVarM, isiD, vNot, aB, aCh, dC2, inR]
def rowOk (n : Nat) : D → Bool
  | .tup es => decide (1 ≤ es.length) && decide (es.length ≤ 5) && decide (es.length = n) && es.all (inR 0 1)
  | _ => false
def isTab : D → Bool
  | .tup (.tup es0 :: rest) => decide (rest.length + 1 ≤ 5) && (D.tup es0 :: rest).all (rowOk es0.length)
  | _ => false
theorem rowOk_tup (n : Nat) (es : List D) : rowOk n (.tup es) = (decide (1 ≤ es.length) && decide (es.length ≤ 5) && decide (es.length = n) && es.all (inR 0 1)) := rfl
theorem isTab_tup (es0 rest : List D) : isTab (.tup (.tup es0 :: rest)) = (decide (rest.length + 1 ≤ 5) && (D.tup es0 :: rest).all (rowOk es0.length)) := rfl
theorem pls_mem : ∀ {ds : List D} {n : Nat} {d : D}, pls ds n = true → d ∈ ds → pl d n = true
  | [], _, _, _, h => (nomatch h)
  | a :: ds, n, d, h, hm => by
    rw [pls, Bool.and_eq_true] at h
    rcases List.mem_cons.mp hm with e | e
    · rw [e]; exact h.1
    · exact pls_mem h.2 e
theorem pls_filter {p : D → Bool} : ∀ {ds : List D} {n : Nat}, pls ds n = true → pls (ds.filter p) n = true
  | [], _, _ => by simp [pls]
  | a :: ds, n, h => by
    rw [pls, Bool.and_eq_true] at h
    rw [List.filter_cons]
    split
    · rw [pls, h.1, pls_filter h.2]; rfl
    · exact pls_filter h.2
theorem filt_empty (es : List D) (p : D → Bool) : (es.filter fun x => !p x).isEmpty = es.all p := by
  induction es with
  | nil => rfl
  | cons a l ih =>
    rw [List.filter_cons, List.all_cons]
    cases h : p a with
    | true => rw [if_neg (by decide), ih]; rfl
    | false => rfl
mutual
theorem pl_le : ∀ (d : D) (n m : Nat), n ≤ m → pl d n = true → pl d m = true
  | .lst xs, 0, _, _, h => by rw [pl] at h; cases h
  | .tup xs, 0, _, _, h => by rw [pl] at h; cases h
  | .lst xs, n + 1, m, hm, h => by
    obtain ⟨k, rfl⟩ : ∃ k, m = k + 1 := ⟨m - 1, by omega⟩
    rw [pl] at h ⊢
    exact pls_le' xs n k (by omega) h
  | .tup xs, n + 1, m, hm, h => by
    obtain ⟨k, rfl⟩ : ∃ k, m = k + 1 := ⟨m - 1, by omega⟩
    rw [pl] at h ⊢
    exact pls_le' xs n k (by omega) h
  | .scr _, _, _, _, h => by rw [pl] at h; cases h
  | .obj _, _, _, _, h => by rw [pl] at h; cases h
  | .non, _, _, _, _ => by rw [pl]
  | .bl _, _, _, _, _ => by rw [pl]
  | .int _, _, _, _, _ => by rw [pl]
  | .str _, _, _, _, _ => by rw [pl]
theorem pls_le' : ∀ (ds : List D) (n m : Nat), n ≤ m → pls ds n = true → pls ds m = true
  | [], _, _, _, _ => by rw [pls]
  | d :: ds, n, m, hm, h => by
    rw [pls, Bool.and_eq_true] at h ⊢
    exact ⟨pl_le d n m hm h.1, pls_le' ds n m hm h.2⟩
end
theorem pls_le {ds : List D} {n m : Nat} (h : n ≤ m) (hp : pls ds n = true) : pls ds m = true := pls_le' ds n m h hp
theorem deqs_nil (l : List D) : deqs l [] = l.isEmpty := by cases l <;> simp [deqs]
/-- one row of is_table's loop -/
theorem is_table_row {es0 rest es : List D} {n : Nat} (he : pls es n = true) (hz : es.length ≤ 100000) :
    b_is_table_1 [.im (.tup (.tup es0 :: rest)), .im (.tup es), .no] = if rowOk es0.length (.tup es) then some (.nx [.im (.tup (.tup es0 :: rest)), .im (.tup es), .no]) else some (.rt (.bl false)) := by
  have comp : aLc (aiT (aVar 1)) (agN 2) t_is_table_1 e_is_table_1 [2] [.im (.tup (.tup es0 :: rest)), .im (.tup es), .no] = some (es.filter fun x => !inR 0 1 x) := by
    simp only [aLc, aiT, aVar, List.getElem?_cons_zero, List.getElem?_cons_succ, if_pos hz, wipeE, List.set]
    rw [compL_map (ag := agN 2) (t := t_is_table_1) (f := e_is_table_1) (fun x => !inR 0 1 x) id es fun d hd => ⟨_, rfl, by
      simp only [t_is_table_1, tNot', aTr, aCall, aCons, aVar, aC, aNil, List.set, List.getElem?_cons_zero, List.getElem?_cons_succ, in_range_eq 0 1 (pls_mem he hd), tru], fun _ => rfl⟩, List.map_id]
  have h0 : atI (D.tup es0 :: rest) 0 = some (D.tup es0) := atI_nat (j := 0) rfl
  unfold b_is_table_1 rowOk
  by_cases c1 : 1 ≤ es.length
  · by_cases c2 : es.length ≤ 5
    · have c1' : (1 : Int) ≤ (es.length : Int) := by omega
      have c2' : (es.length : Int) ≤ 5 := by omega
      by_cases c3 : es.length = es0.length
      · have c3' : ((es.length : Int) == (es0.length : Int)) = true := beq_iff_eq.mpr (by omega)
        simp only [aSeq, aIfS, tOr', tNot', aTr, aIsi, aVarM, List.getElem?_cons_zero, List.getElem?_cons_succ, isiD, tru, beq_self_eq_true, Bool.not_true, aCh, aC, aF, aCons, aNil, dLen, dC2, decide_eq_true c1', decide_eq_true c2', a2t, a2, dIx, h0, dNe, pl, Bool.and_self, if_true, deq, c3', aSkip, aLst, comp, filt_empty, decide_eq_true c1, decide_eq_true c2, decide_eq_true c3, Bool.true_and]
        cases h : es.all (inR 0 1) with
        | true => rfl
        | false => rfl
      · have c3' : ((es.length : Int) == (es0.length : Int)) = false := beq_eq_false_iff_ne.mpr (by omega)
        simp only [aSeq, aIfS, tOr', tNot', aTr, aIsi, aVarM, List.getElem?_cons_zero, List.getElem?_cons_succ, isiD, tru, beq_self_eq_true, Bool.not_true, aCh, aC, aF, aCons, aNil, dLen, dC2, decide_eq_true c1', decide_eq_true c2', a2t, a2, dIx, h0, dNe, pl, Bool.and_self, if_true, deq, c3', Bool.not_false, aRet, decide_eq_false c3, Bool.and_false, Bool.false_and]
        rfl
    · have c1' : (1 : Int) ≤ (es.length : Int) := by omega
      have c2' : ¬ (es.length : Int) ≤ 5 := by omega
      simp only [aSeq, aIfS, tOr', tNot', aTr, aIsi, aVarM, List.getElem?_cons_zero, List.getElem?_cons_succ, isiD, tru, beq_self_eq_true, Bool.not_true, aCh, aC, aF, aCons, aNil, dLen, dC2, decide_eq_true c1', decide_eq_false c2', Bool.not_false, aRet, decide_eq_false c2, Bool.and_false, Bool.false_and]
      rfl
  · have c1' : ¬ (1 : Int) ≤ (es.length : Int) := by omega
    simp only [aSeq, aIfS, tOr', tNot', aTr, aIsi, aVarM, List.getElem?_cons_zero, List.getElem?_cons_succ, isiD, tru, beq_self_eq_true, Bool.not_true, aCh, aC, aF, aCons, aNil, dLen, dC2, decide_eq_false c1', Bool.not_false, aRet, decide_eq_false c1, Bool.false_and]
    rfl
/-- the law's own -/
theorem law_is_table_row {es0 rest es : List D} {n : Nat} (he : pls es n = true) (hz : es.length ≤ 100000) (hn : n ≤ 7) :
    b__law_is_table_1 [.im (.tup (.tup es0 :: rest)), .im (.tup es), .no] = if rowOk es0.length (.tup es) then some (.nx [.im (.tup (.tup es0 :: rest)), .im (.tup es), .no]) else some (.rt (.bl false)) := by
  have comp : aLc (aiT (aVar 1)) (agN 2) t__law_is_table_1 e__law_is_table_1 [2] [.im (.tup (.tup es0 :: rest)), .im (.tup es), .no] = some (es.filter fun x => !inR 0 1 x) := by
    simp only [aLc, aiT, aVar, List.getElem?_cons_zero, List.getElem?_cons_succ, if_pos hz, wipeE, List.set]
    rw [compL_map (ag := agN 2) (t := t__law_is_table_1) (f := e__law_is_table_1) (fun x => !inR 0 1 x) id es fun d hd => ⟨_, rfl, by
      simp only [t__law_is_table_1, tNot', aTr, aCall, aCons, aVar, aC, aNil, List.set, List.getElem?_cons_zero, List.getElem?_cons_succ, law_in_eq 0 1 (pls_mem he hd), tru], fun _ => rfl⟩, List.map_id]
  have h0 : atI (D.tup es0 :: rest) 0 = some (D.tup es0) := atI_nat (j := 0) rfl
  unfold b__law_is_table_1 rowOk
  by_cases c1 : 1 ≤ es.length
  · by_cases c2 : es.length ≤ 5
    · have c1' : (1 : Int) ≤ (es.length : Int) := by omega
      have c2' : (es.length : Int) ≤ 5 := by omega
      by_cases c3 : es.length = es0.length
      · have c3' : ((es.length : Int) == (es0.length : Int)) = true := beq_iff_eq.mpr (by omega)
        simp only [aSeq, aIfS, tOr', tNot', aTr, aIsi, aVarM, List.getElem?_cons_zero, List.getElem?_cons_succ, isiD, tru, beq_self_eq_true, Bool.not_true, aCh, aC, aF, aCons, aNil, dLen, dC2, decide_eq_true c1', decide_eq_true c2', a2t, a2, dIx, h0, dNe, pl, pls, Bool.and_self, if_true, deq, c3', aSkip, aLst, comp, decide_eq_true c1, decide_eq_true c2, decide_eq_true c3, Bool.true_and]
        have hp : pls (es.filter fun x => !inR 0 1 x) 7 = true := pls_le hn (pls_filter he)
        simp only [hp, deqs_nil, filt_empty, Bool.and_self, if_true]
        cases h : es.all (inR 0 1) with
        | true => rfl
        | false => rfl
      · have c3' : ((es.length : Int) == (es0.length : Int)) = false := beq_eq_false_iff_ne.mpr (by omega)
        simp only [aSeq, aIfS, tOr', tNot', aTr, aIsi, aVarM, List.getElem?_cons_zero, List.getElem?_cons_succ, isiD, tru, beq_self_eq_true, Bool.not_true, aCh, aC, aF, aCons, aNil, dLen, dC2, decide_eq_true c1', decide_eq_true c2', a2t, a2, dIx, h0, dNe, pl, Bool.and_self, if_true, deq, c3', Bool.not_false, aRet, decide_eq_false c3, Bool.and_false, Bool.false_and]
        rfl
    · have c1' : (1 : Int) ≤ (es.length : Int) := by omega
      have c2' : ¬ (es.length : Int) ≤ 5 := by omega
      simp only [aSeq, aIfS, tOr', tNot', aTr, aIsi, aVarM, List.getElem?_cons_zero, List.getElem?_cons_succ, isiD, tru, beq_self_eq_true, Bool.not_true, aCh, aC, aF, aCons, aNil, dLen, dC2, decide_eq_true c1', decide_eq_false c2', Bool.not_false, aRet, decide_eq_false c2, Bool.and_false, Bool.false_and]
      rfl
  · have c1' : ¬ (1 : Int) ≤ (es.length : Int) := by omega
    simp only [aSeq, aIfS, tOr', tNot', aTr, aIsi, aVarM, List.getElem?_cons_zero, List.getElem?_cons_succ, isiD, tru, beq_self_eq_true, Bool.not_true, aCh, aC, aF, aCons, aNil, dLen, dC2, decide_eq_false c1', Bool.not_false, aRet, decide_eq_false c1, Bool.false_and]
    rfl

theorem forL_all {g : AG} {b : AS} {l : List Nat} {E : En} {r : D} (p : D → Bool) (ds : List D) (h : ∀ d ∈ ds, ∃ E1, g d E = some E1 ∧ (p d = true → ∃ E2, b E1 = some (.nx E2) ∧ wipeE E2 l = E) ∧ (p d = false → b E1 = some (.rt r))) :
    forL g b l ds E = if ds.all p then some (.nx E) else some (.rt r) := by
  rw [forL_srch (fun d => !p d) (fun _ => r) ds fun d hd => by
    obtain ⟨E1, e1, h1, h2⟩ := h d hd
    refine ⟨E1, e1, fun z => h1 (by simpa using z), fun z => h2 (by simpa using z)⟩]
  cases z : ds.find? fun d => !p d with
  | none =>
    have : ds.all p = true := by
      rw [List.all_eq_true]
      intro d hd
      have := List.find?_eq_none.mp z d hd
      simpa using this
    rw [this]
    rfl
  | some d =>
    have h1 := List.find?_some z
    have h2 := List.mem_of_find?_eq_some z
    have : ds.all p = false := by
      rw [List.all_eq_false]
      exact ⟨d, h2, by simpa using h1⟩
    rw [this]
    rfl
theorem tab_len {rs : List D} {n : Nat} (h : rs.length ≤ 5) : rs.length ≤ 100000 := by omega
theorem is_table_eq (d : D) (h : pl d 8 = true) : F_is_table [d] = some (.ok (.bl (isTab d))) := by
  unfold F_is_table a_is_table
  have stop : ∀ x : D, (∀ es, x ≠ .tup es) → pl x 8 = true → isiD "tuple" x = some false := fun x hx hp => by
    cases x with
    | tup es => exact absurd rfl (hx es)
    | scr _ => rw [pl] at hp; cases hp
    | obj _ => rw [pl] at hp; cases hp
    | _ => rfl
  by_cases hd : ∃ rs, d = .tup rs
  · obtain ⟨rs, rfl⟩ := hd
    have hrs : pls rs 7 = true := by rw [pl] at h; exact h
    by_cases c1 : 1 ≤ rs.length
    · have c1' : (1 : Int) ≤ (rs.length : Int) := by omega
      by_cases c2 : rs.length ≤ 5
      · have c2' : (rs.length : Int) ≤ 5 := by omega
        have c3 : rs.length ≤ 100000 := by omega
        obtain ⟨r0, rest, rfl⟩ : ∃ r0 rest, rs = r0 :: rest := by
          cases rs with
          | nil => simp at c1
          | cons a l => exact ⟨a, l, rfl⟩
        simp only [runF, en0, List.map_cons, List.map_nil, List.replicate, List.cons_append, List.nil_append, aSeq, aIfS, tOr', tNot', aTr, aIsi, aVarM, List.getElem?_cons_zero, List.getElem?_cons_succ, isiD, tru, beq_self_eq_true, Bool.not_true, aCh, aC, aF, aCons, aNil, dLen, dC2, decide_eq_true c1', decide_eq_true c2', aSkip, aFor, aiT, aVar, if_pos c3, wipeE, List.set]
        by_cases ht : ∃ es0, r0 = .tup es0
        · obtain ⟨es0, rfl⟩ := ht
          have hrow : ∀ x ∈ D.tup es0 :: rest, ∃ E1, agN 1 x [.im (.tup (.tup es0 :: rest)), .no, .no] = some E1 ∧ (rowOk es0.length x = true → ∃ E2, b_is_table_1 E1 = some (.nx E2) ∧ wipeE E2 [1] = [.im (.tup (.tup es0 :: rest)), .no, .no]) ∧ (rowOk es0.length x = false → b_is_table_1 E1 = some (.rt (.bl false))) := fun x hx => by
            refine ⟨_, rfl, ?_⟩
            have hp := pls_mem hrs hx
            by_cases hxt : ∃ es, x = .tup es
            · obtain ⟨es, rfl⟩ := hxt
              have hes : pls es 6 = true := by rw [pl] at hp; exact hp
              simp only [List.set]
              by_cases hz : es.length ≤ 100000
              · rw [is_table_row hes hz]
                refine ⟨fun z => ⟨_, by rw [if_pos z], rfl⟩, fun z => by rw [if_neg (by rw [z]; decide)]⟩
              · have z : rowOk es0.length (.tup es) = false := by
                  rw [rowOk_tup, decide_eq_false (show ¬ es.length ≤ 5 by omega)]
                  simp
                refine ⟨fun y => (by rw [z] at y; cases y), fun _ => ?_⟩
                have c1' : (1 : Int) ≤ (es.length : Int) := by omega
                have c2' : ¬ (es.length : Int) ≤ 5 := by omega
                unfold b_is_table_1
                simp only [aSeq, aIfS, tOr', tNot', aTr, aIsi, aVarM, List.getElem?_cons_zero, List.getElem?_cons_succ, isiD, tru, beq_self_eq_true, Bool.not_true, aCh, aC, aF, aCons, aNil, dLen, dC2, decide_eq_true c1', decide_eq_false c2', Bool.not_false, aRet]
            · have z : rowOk es0.length x = false := by
                cases x with
                | tup es => exact absurd ⟨es, rfl⟩ hxt
                | _ => rfl
              refine ⟨fun y => (by rw [z] at y; cases y), fun _ => ?_⟩
              unfold b_is_table_1
              simp only [List.set, aSeq, aIfS, tOr', tNot', aTr, aIsi, aVarM, List.getElem?_cons_zero, List.getElem?_cons_succ, stop x (fun es e => hxt ⟨es, e⟩) (pl_le x 7 8 (by omega) hp), tru, Bool.not_false, aRet, aC]
          rw [forL_all (rowOk es0.length) (D.tup es0 :: rest) hrow]
          have hl5 : rest.length + 1 ≤ 5 := by simpa using c2
          rw [isTab_tup, decide_eq_true hl5, Bool.true_and]
          cases (D.tup es0 :: rest).all (rowOk es0.length) with
          | true => rfl
          | false => rfl
        · have hp := pls_mem hrs (List.mem_cons_self ..)
          rw [forL]
          unfold b_is_table_1
          simp only [agN, List.set, aSeq, aIfS, tOr', tNot', aTr, aIsi, aVarM, List.getElem?_cons_zero, List.getElem?_cons_succ, stop r0 (fun es e => ht ⟨es, e⟩) (pl_le r0 7 8 (by omega) hp), tru, Bool.not_false, aRet, aC]
          have : isTab (.tup (r0 :: rest)) = false := by
            cases r0 with
            | tup es => exact absurd ⟨es, rfl⟩ ht
            | _ => rfl
          rw [this]
          rfl
      · have c2' : ¬ (rs.length : Int) ≤ 5 := by omega
        simp only [runF, en0, List.map_cons, List.map_nil, List.replicate, List.cons_append, List.nil_append, aSeq, aIfS, tOr', tNot', aTr, aIsi, aVarM, List.getElem?_cons_zero, List.getElem?_cons_succ, isiD, tru, beq_self_eq_true, Bool.not_true, aCh, aC, aF, aCons, aNil, dLen, dC2, decide_eq_true c1', decide_eq_false c2', Bool.not_false, aRet]
        have : isTab (.tup rs) = false := by
          cases rs with
          | nil => rfl
          | cons r0 rest =>
            cases r0 with
            | tup es =>
              rw [isTab_tup, decide_eq_false (show ¬ rest.length + 1 ≤ 5 by simpa using c2)]
              rfl
            | _ => rfl
        rw [this]
        rfl
    · have e : rs = [] := by
        cases rs with
        | nil => rfl
        | cons a l => simp at c1
      subst e
      rfl
  · simp only [runF, en0, List.map_cons, List.map_nil, List.replicate, List.cons_append, List.nil_append, aSeq, aIfS, tOr', tNot', aTr, aIsi, aVarM, List.getElem?_cons_zero, List.getElem?_cons_succ, stop d (fun es e => hd ⟨es, e⟩) h, tru, Bool.not_false, aRet, aC]
    have : isTab d = false := by
      cases d with
      | tup es => exact absurd ⟨es, rfl⟩ hd
      | _ => rfl
    rw [this]
    rfl
theorem law_is_table_eq (d : D) (h : pl d 8 = true) : F__law_is_table [d] = some (.ok (.bl (isTab d))) := by
  unfold F__law_is_table a__law_is_table
  have stop : ∀ x : D, (∀ es, x ≠ .tup es) → pl x 8 = true → isiD "tuple" x = some false := fun x hx hp => by
    cases x with
    | tup es => exact absurd rfl (hx es)
    | scr _ => rw [pl] at hp; cases hp
    | obj _ => rw [pl] at hp; cases hp
    | _ => rfl
  by_cases hd : ∃ rs, d = .tup rs
  · obtain ⟨rs, rfl⟩ := hd
    have hrs : pls rs 7 = true := by rw [pl] at h; exact h
    by_cases c1 : 1 ≤ rs.length
    · have c1' : (1 : Int) ≤ (rs.length : Int) := by omega
      by_cases c2 : rs.length ≤ 5
      · have c2' : (rs.length : Int) ≤ 5 := by omega
        have c3 : rs.length ≤ 100000 := by omega
        obtain ⟨r0, rest, rfl⟩ : ∃ r0 rest, rs = r0 :: rest := by
          cases rs with
          | nil => simp at c1
          | cons a l => exact ⟨a, l, rfl⟩
        simp only [runF, en0, List.map_cons, List.map_nil, List.replicate, List.cons_append, List.nil_append, aSeq, aIfS, tOr', tNot', aTr, aIsi, aVarM, List.getElem?_cons_zero, List.getElem?_cons_succ, isiD, tru, beq_self_eq_true, Bool.not_true, aCh, aC, aF, aCons, aNil, dLen, dC2, decide_eq_true c1', decide_eq_true c2', aSkip, aFor, aiT, aVar, if_pos c3, wipeE, List.set]
        by_cases ht : ∃ es0, r0 = .tup es0
        · obtain ⟨es0, rfl⟩ := ht
          have hrow : ∀ x ∈ D.tup es0 :: rest, ∃ E1, agN 1 x [.im (.tup (.tup es0 :: rest)), .no, .no] = some E1 ∧ (rowOk es0.length x = true → ∃ E2, b__law_is_table_1 E1 = some (.nx E2) ∧ wipeE E2 [1] = [.im (.tup (.tup es0 :: rest)), .no, .no]) ∧ (rowOk es0.length x = false → b__law_is_table_1 E1 = some (.rt (.bl false))) := fun x hx => by
            refine ⟨_, rfl, ?_⟩
            have hp := pls_mem hrs hx
            by_cases hxt : ∃ es, x = .tup es
            · obtain ⟨es, rfl⟩ := hxt
              have hes : pls es 6 = true := by rw [pl] at hp; exact hp
              simp only [List.set]
              by_cases hz : es.length ≤ 100000
              · rw [law_is_table_row hes hz (by omega)]
                refine ⟨fun z => ⟨_, by rw [if_pos z], rfl⟩, fun z => by rw [if_neg (by rw [z]; decide)]⟩
              · have z : rowOk es0.length (.tup es) = false := by
                  rw [rowOk_tup, decide_eq_false (show ¬ es.length ≤ 5 by omega)]
                  simp
                refine ⟨fun y => (by rw [z] at y; cases y), fun _ => ?_⟩
                have c1' : (1 : Int) ≤ (es.length : Int) := by omega
                have c2' : ¬ (es.length : Int) ≤ 5 := by omega
                unfold b__law_is_table_1
                simp only [aSeq, aIfS, tOr', tNot', aTr, aIsi, aVarM, List.getElem?_cons_zero, List.getElem?_cons_succ, isiD, tru, beq_self_eq_true, Bool.not_true, aCh, aC, aF, aCons, aNil, dLen, dC2, decide_eq_true c1', decide_eq_false c2', Bool.not_false, aRet]
            · have z : rowOk es0.length x = false := by
                cases x with
                | tup es => exact absurd ⟨es, rfl⟩ hxt
                | _ => rfl
              refine ⟨fun y => (by rw [z] at y; cases y), fun _ => ?_⟩
              unfold b__law_is_table_1
              simp only [List.set, aSeq, aIfS, tOr', tNot', aTr, aIsi, aVarM, List.getElem?_cons_zero, List.getElem?_cons_succ, stop x (fun es e => hxt ⟨es, e⟩) (pl_le x 7 8 (by omega) hp), tru, Bool.not_false, aRet, aC]
          rw [forL_all (rowOk es0.length) (D.tup es0 :: rest) hrow]
          have hl5 : rest.length + 1 ≤ 5 := by simpa using c2
          rw [isTab_tup, decide_eq_true hl5, Bool.true_and]
          cases (D.tup es0 :: rest).all (rowOk es0.length) with
          | true => rfl
          | false => rfl
        · have hp := pls_mem hrs (List.mem_cons_self ..)
          rw [forL]
          unfold b__law_is_table_1
          simp only [agN, List.set, aSeq, aIfS, tOr', tNot', aTr, aIsi, aVarM, List.getElem?_cons_zero, List.getElem?_cons_succ, stop r0 (fun es e => ht ⟨es, e⟩) (pl_le r0 7 8 (by omega) hp), tru, Bool.not_false, aRet, aC]
          have : isTab (.tup (r0 :: rest)) = false := by
            cases r0 with
            | tup es => exact absurd ⟨es, rfl⟩ ht
            | _ => rfl
          rw [this]
          rfl
      · have c2' : ¬ (rs.length : Int) ≤ 5 := by omega
        simp only [runF, en0, List.map_cons, List.map_nil, List.replicate, List.cons_append, List.nil_append, aSeq, aIfS, tOr', tNot', aTr, aIsi, aVarM, List.getElem?_cons_zero, List.getElem?_cons_succ, isiD, tru, beq_self_eq_true, Bool.not_true, aCh, aC, aF, aCons, aNil, dLen, dC2, decide_eq_true c1', decide_eq_false c2', Bool.not_false, aRet]
        have : isTab (.tup rs) = false := by
          cases rs with
          | nil => rfl
          | cons r0 rest =>
            cases r0 with
            | tup es =>
              rw [isTab_tup, decide_eq_false (show ¬ rest.length + 1 ≤ 5 by simpa using c2)]
              rfl
            | _ => rfl
        rw [this]
        rfl
    · have e : rs = [] := by
        cases rs with
        | nil => rfl
        | cons a l => simp at c1
      subst e
      rfl
  · simp only [runF, en0, List.map_cons, List.map_nil, List.replicate, List.cons_append, List.nil_append, aSeq, aIfS, tOr', tNot', aTr, aIsi, aVarM, List.getElem?_cons_zero, List.getElem?_cons_succ, stop d (fun es e => hd ⟨es, e⟩) h, tru, Bool.not_false, aRet, aC]
    have : isTab d = false := by
      cases d with
      | tup es => exact absurd ⟨es, rfl⟩ hd
      | _ => rfl
    rw [this]
    rfl
theorem check_bad (d : D) (h : pl d 8 = true) (hd : isTab d = false) : F_check_table [d] = some (.er (.own "InvalidTable")) := by
  unfold F_check_table a_check_table
  simp only [runF, en0, List.map_cons, List.map_nil, List.replicate, List.cons_append, List.nil_append, aIfS, tNot', aTr, aCall, aCons, aVar, aNil, List.getElem?_cons_zero, is_table_eq d h, hd, tru, Bool.not_false, aRaise]
  rfl
theorem check_ok (d : D) (h : pl d 8 = true) (hd : isTab d = true) : F_check_table [d] = some (.ok .non) := by
  unfold F_check_table a_check_table
  simp only [runF, en0, List.map_cons, List.map_nil, List.replicate, List.cons_append, List.nil_append, aIfS, tNot', aTr, aCall, aCons, aVar, aNil, List.getElem?_cons_zero, is_table_eq d h, hd, tru, Bool.not_true, aSkip]
  rfl
end Lw
set_option Elab.async false
set_option linter.all false
set_option maxRecDepth 100000
set_option maxHeartbeats 4000000
namespace Lw
open PySem L2 Rf
theorem mem_rg {lo : Int} {n : Nat} {d : D} (h : d ∈ rg lo n) : ∃ i : Nat, i < n ∧ d = .int (lo + (i : Nat)) := by
  unfold rg at h
  obtain ⟨i, hi, rfl⟩ := List.mem_map.mp h
  exact ⟨i, List.mem_range.mp hi, rfl⟩
theorem plR (r : List Bool) (n : Nat) : pls (r.map bI) n = true := by
  induction r with
  | nil => rfl
  | cons b r ih => rw [List.map_cons, pls, ih]; cases b <;> rfl
theorem plE (r : List Bool) (n : Nat) : pl (encR r) (n + 1) = true := by rw [encR, pl]; exact plR r n
theorem plRs (t : Tb) (n : Nat) : pls (t.map encR) (n + 1) = true := by
  induction t with
  | nil => rfl
  | cons b r ih => rw [List.map_cons, pls, ih, plE]; rfl
theorem plT (t : Tb) (n : Nat) : pl (encT t) (n + 2) = true := by rw [encT, pl]; exact plRs t n
theorem pls_append : ∀ {a b : List D} {n : Nat}, pls a n = true → pls b n = true → pls (a ++ b) n = true
  | [], _, _, _, h => h
  | x :: a, b, n, h1, h2 => by
    rw [pls, Bool.and_eq_true] at h1
    rw [List.cons_append, pls, h1.1, pls_append h1.2 h2]
    rfl
theorem pls_drop : ∀ {a : List D} {n : Nat} (k : Nat), pls a n = true → pls (a.drop k) n = true
  | a, _, 0, h => h
  | [], _, k + 1, h => by rw [List.drop_nil]; exact h
  | x :: a, n, k + 1, h => by
    rw [pls, Bool.and_eq_true] at h
    exact pls_drop (a := a) k h.2
theorem pls_take : ∀ {a : List D} {n : Nat} (k : Nat), pls a n = true → pls (a.take k) n = true
  | a, _, 0, h => rfl
  | [], _, k + 1, h => by rw [List.take_nil]; exact h
  | x :: a, n, k + 1, h => by
    rw [pls, Bool.and_eq_true] at h
    rw [List.take_succ_cons, pls, h.1, pls_take k h.2]
    rfl
theorem pls_cut {a : List D} {n : Nat} {l u : Option Int} (h : pls a n = true) : pls (cutD a l u) n = true := pls_take _ (pls_drop _ h)
theorem pls_flat {a : List D} {n : Nat} (k : Nat) (h : pls a n = true) : pls (List.replicate k a).flatten n = true := by
  induction k with
  | zero => rfl
  | succ k ih => rw [List.replicate_succ, List.flatten_cons]; exact pls_append h ih
theorem cut_le {a : List D} {l u : Option Int} : (cutD a l u).length ≤ a.length := by
  unfold cutD
  rw [List.length_take, List.length_drop]
  omega
theorem flat_len {α : Type} (k : Nat) (a : List α) : (List.replicate k a).flatten.length = k * a.length := by
  induction k with
  | zero => simp
  | succ k ih => rw [List.replicate_succ, List.flatten_cons, List.length_append, ih, Nat.succ_mul]; omega
end Lw
set_option Elab.async false
set_option linter.all false
set_option maxRecDepth 100000
set_option maxHeartbeats 4000000
namespace Lw
open PySem L2 Rf
def e_is_list_of_1 : AE := (aVar 2)
def t_is_list_of_1 : AT := (tNot' (aTr (aCall F_in_range (aCons (aVar 2) (aCons (aC (.int 0)) (aCons (a2 dSub (aVarM 1) (aC (.int 1))) aNil))))))
def a_is_list_of : AS := (aSeq (aIfS (tOr' (tNot' (aTr (aIsi "tuple" (aVarM 0)))) (aTr (aLst (aLc (aiT (aVar 0)) (agN 2) t_is_list_of_1 e_is_list_of_1 [2])))) (aRet (aC (.bl false))) aSkip)
  (aRet (a2 (bv dEq) (aLenSet (aVarM 0)) (aF dLen (aCons (aVarM 0) aNil)))))
def F_is_list_of : Fn := runF 1 a_is_list_of
def e_arrangements_1 : AE := (a2 dAdd (aVarM 5) (aTup (aCons (aVar 6) aNil)))
def t_arrangements_1 : AT := (a2t dNin (aVarM 6) (aVarM 5))
def b_arrangements_1 : AS := (aExt 4 (aLc (aiR1 (aCons (aVarM 0) aNil)) (agN 6) t_arrangements_1 e_arrangements_1 [6]))
def b_arrangements_2 : AS := (aSeq (aSetM 4 aNil)
  (aSeq (aFor (aiL (aVar 2)) (agN 5) b_arrangements_1 [5])
  (aFrz 4 (aSet 2 (aVar 4)))))
def a_arrangements : AS := (aSeq (aSet 2 (aLst (aCons (aTup aNil) aNil)))
  (aSeq (aFor (aiR1 (aCons (aVarM 1) aNil)) (agN 3) b_arrangements_2 [3, 4, 5])
  (aRet (aVar 2))))
def F_arrangements : Fn := runF 5 a_arrangements
def b_rings_on_1 : AS := (aSeq (aSet 8 (vOr (a2 (bv dEq) (aVarM 6) (aVarM 4)) (a2 (bv dEq) (aVarM 6) (a2 dMod (a2 dAdd (aVarM 4) (aC (.int 1))) (aVarM 3)))))
  (aIfS (a2t dNe (a2 (bv dEq) (a2 dIx (a2 dIx (aVarM 0) (aVarM 5)) (aVarM 7)) (aC (.int 1))) (aVarM 8)) (aRet (aC (.bl false))) aSkip))
def b_rings_on_2 : AS := (aFor (aiEnT (aCons (aVar 2) aNil)) (agT 2 (agCons (agN 6) (agCons (agN 7) agNil))) b_rings_on_1 [6, 7, 8])
def a_rings_on : AS := (aSeq (aSet 3 (aF dLen (aCons (aVarM 1) aNil)))
  (aSeq (aFor (aiEnT (aCons (aVar 1) aNil)) (agT 2 (agCons (agN 4) (agCons (agN 5) agNil))) b_rings_on_2 [4, 5, 6, 7, 8])
  (aRet (aC (.bl true)))))
def F_rings_on : Fn := runF 6 a_rings_on
def b_ring_of_1 : AS := (aIfS (aTr (aCall F_rings_on (aCons (aVar 0) (aCons (aVar 2) (aCons (aVar 3) aNil))))) (aRet (aTup (aCons (aVar 2) (aCons (aVar 3) aNil)))) aSkip)
def b_ring_of_2 : AS := (aIfS (a2t dEq (a2 dIx (aVarM 2) (aC (.int 0))) (aF dMinP (aCons (aVarM 2) aNil))) (aFor (aiL (aCall F_arrangements (aCons (aF dLen (aCons (a2 dIx (aVarM 0) (aC (.int 0))) aNil)) (aCons (aVar 1) aNil)))) (agN 3) b_ring_of_1 [3]) aSkip)
def b_ring_of_3 : AS := (aFor (aiL (aCall F_arrangements (aCons (aF dLen (aCons (aVarM 0) aNil)) (aCons (aVar 1) aNil)))) (agN 2) b_ring_of_2 [2, 3])
def a_ring_of : AS := (aSeq (aFor (aiR2 (aCons (aC (.int 3)) (aCons (a2 dAdd (aF dMin2 (aCons (aF dLen (aCons (aVarM 0) aNil)) (aCons (aF dLen (aCons (a2 dIx (aVarM 0) (aC (.int 0))) aNil)) aNil))) (aC (.int 1))) aNil))) (agN 1) b_ring_of_3 [1, 2, 3])
  (aRet (aC .non)))
def F_ring_of : Fn := runF 3 a_ring_of
def a_has_ring : AS := (aSeq (aDropX (aCallX F_check_table (aCons (aVar 0) aNil)))
  (aRet (a2 (bv dIsNn) (aCall F_ring_of (aCons (aVar 0) aNil)) (aC .non))))
def F_has_ring : Fn := runF 0 a_has_ring
def a_is_ring : AS := (aSeq (aDropX (aCallX F_check_table (aCons (aVar 0) aNil)))
  (aSeq (aIfS (tOr' (tNot' (aTr (aIsi "tuple" (aVarM 1)))) (a2t dNe (aF dLen (aCons (aVarM 1) aNil)) (aC (.int 2)))) (aRet (aC (.bl false))) aSkip)
  (aSeq (aIfS (tOr' (tNot' (aTr (aCall F_is_list_of (aCons (a2 dIx (aVarM 1) (aC (.int 0))) (aCons (aF dLen (aCons (aVarM 0) aNil)) aNil))))) (tNot' (aTr (aCall F_is_list_of (aCons (a2 dIx (aVarM 1) (aC (.int 1))) (aCons (aF dLen (aCons (a2 dIx (aVarM 0) (aC (.int 0))) aNil)) aNil)))))) (aRet (aC (.bl false))) aSkip)
  (aRet (vAnd (aB (aCh dEq dGe (aF dLen (aCons (a2 dIx (aVarM 1) (aC (.int 0))) aNil)) (aF dLen (aCons (a2 dIx (aVarM 1) (aC (.int 1))) aNil)) (aC (.int 3)))) (aCall F_rings_on (aCons (aVar 0) (aCons (a2 dIx (aVarM 1) (aC (.int 0))) (aCons (a2 dIx (aVarM 1) (aC (.int 1))) aNil)))))))))
def F_is_ring : Fn := runF 0 a_is_ring
def a_check_free : AS := (aSeq (aDropX (aCallX F_check_table (aCons (aVar 0) aNil)))
  (aIfS (a2t dIsNn (aCall F_ring_of (aCons (aVar 0) aNil)) (aC .non)) (aRaise "HasRing") aSkip))
def F_check_free : Fn := runF 0 a_check_free
def e_ordered_1 : AE := (a2 dIx (a2 dIx (aVarM 0) (aVarM 3)) (aVarM 4))
def e_ordered_2 : AE := (aF dTuple (aCons (aLst (aLc (aiT (aVar 2)) (agN 4) aYes e_ordered_1 [4])) aNil))
def a_ordered : AS := (aRet (aF dTuple (aCons (aLst (aLc (aiT (aVar 1)) (agN 3) aYes e_ordered_2 [3])) aNil)))
def F_ordered : Fn := runF 2 a_ordered
def b_corner_of_1 : AS := (aSeq (aSet 5 (a2 dAdd (a2 dAdd (a2 dIx (a2 dIx (aVarM 0) (aVarM 1)) (aVarM 3)) (a2 dIx (a2 dIx (aVarM 0) (aVarM 1)) (aVarM 4))) (a2 dIx (a2 dIx (aVarM 0) (aVarM 2)) (aVarM 3))))
  (aIfS (tAnd' (a2t dEq (aVarM 5) (aC (.int 3))) (a2t dEq (a2 dIx (a2 dIx (aVarM 0) (aVarM 2)) (aVarM 4)) (aC (.int 0)))) (aRet (aTup (aCons (aVar 1) (aCons (aVar 2) (aCons (aVar 3) (aCons (aVar 4) aNil)))))) aSkip))
def b_corner_of_2 : AS := (aFor (aiR2 (aCons (a2 dAdd (aVarM 3) (aC (.int 1))) (aCons (aF dLen (aCons (a2 dIx (aVarM 0) (aC (.int 0))) aNil)) aNil))) (agN 4) b_corner_of_1 [4, 5])
def b_corner_of_3 : AS := (aFor (aiR1 (aCons (aF dLen (aCons (a2 dIx (aVarM 0) (aC (.int 0))) aNil)) aNil)) (agN 3) b_corner_of_2 [3, 4, 5])
def b_corner_of_4 : AS := (aFor (aiR2 (aCons (a2 dAdd (aVarM 1) (aC (.int 1))) (aCons (aF dLen (aCons (aVarM 0) aNil)) aNil))) (agN 2) b_corner_of_3 [2, 3, 4, 5])
def a_corner_of : AS := (aSeq (aFor (aiR1 (aCons (aF dLen (aCons (aVarM 0) aNil)) aNil)) (agN 1) b_corner_of_4 [1, 2, 3, 4, 5])
  (aRet (aC .non)))
def F_corner_of : Fn := runF 5 a_corner_of
def e_sorted_once_1 : AE := (a2 dIx (a2 dIx (aVarM 0) (aVarM 5)) (aVarM 7))
def e_sorted_once_2 : AE := (aTup (aCons (aRevT (aF dTuple (aCons (aLst (aLc (aiL (aVar 2)) (agN 7) aYes e_sorted_once_1 [7])) aNil))) (aCons (aVar 5) aNil)))
def e_sorted_once_3 : AE := (aVar 5)
def e_sorted_once_4 : AE := (a2 dIx (a2 dIx (aVarM 0) (aVarM 5)) (aVarM 7))
def e_sorted_once_5 : AE := (aTup (aCons (aRevT (aF dTuple (aCons (aLst (aLc (aiL (aVar 4)) (agN 5) aYes e_sorted_once_4 [5])) aNil))) (aCons (aVar 7) aNil)))
def e_sorted_once_6 : AE := (aVar 7)
def a_sorted_once : AS := (aSeq (aSet 3 (aLst (aLc (aiL (aVar 1)) (agN 5) aYes e_sorted_once_2 [5])))
  (aSeq (aSet 4 (aLst (aLc (aiL (aLst (alF lSortP (aCons (aVarM 3) aNil)))) (agT 2 (agCons (agN 6) (agCons (agN 5) agNil))) aYes e_sorted_once_3 [6, 5])))
  (aSeq (aSet 3 (aLst (aLc (aiL (aVar 2)) (agN 7) aYes e_sorted_once_5 [7])))
  (aRet (aTup (aCons (aVar 4) (aCons (aLst (aLc (aiL (aLst (alF lSortP (aCons (aVarM 3) aNil)))) (agT 2 (agCons (agN 6) (agCons (agN 7) agNil))) aYes e_sorted_once_6 [6, 7])) aNil)))))))
def F_sorted_once : Fn := runF 5 a_sorted_once
def b_orders_of_1 : AS := (aSeq (aSet 3 (aCall F_sorted_once (aCons (aVar 0) (aCons (aVar 1) (aCons (aVar 2) aNil)))))
  (aSeq (aIfS (a2t dEq (aVarM 3) (aTup (aCons (aVar 1) (aCons (aVar 2) aNil)))) (aRet (aTup (aCons (aF dTuple (aCons (aVarM 1) aNil)) (aCons (aF dTuple (aCons (aVarM 2) aNil)) aNil)))) aSkip)
  (aAsg (aVar 3) (agT 2 (agCons (agN 1) (agCons (agN 2) agNil))))))
def a_orders_of : AS := (aSeq (aPar 1 2 (aCons (aLst (alRg (aF dLen (aCons (aVarM 0) aNil)))) (aCons (aLst (alRg (aF dLen (aCons (a2 dIx (aVarM 0) (aC (.int 0))) aNil)))) aNil)))
  (aWh 100000 (aTr (aC (.bl true))) b_orders_of_1 [3]))
def F_orders_of : Fn := runF 3 a_orders_of
def a_orders : AS := (aSeq (aDropX (aCallX F_check_free (aCons (aVar 0) aNil)))
  (aRet (aCall F_orders_of (aCons (aVar 0) aNil))))
def F_orders : Fn := runF 0 a_orders
def a_are_orders : AS := (aSeq (aDropX (aCallX F_check_table (aCons (aVar 0) aNil)))
  (aSeq (aIfS (tOr' (tNot' (aTr (aIsi "tuple" (aVarM 1)))) (a2t dNe (aF dLen (aCons (aVarM 1) aNil)) (aC (.int 2)))) (aRet (aC (.bl false))) aSkip)
  (aSeq (aIfS (tOr' (tNot' (aTr (aCall F_is_list_of (aCons (a2 dIx (aVarM 1) (aC (.int 0))) (aCons (aF dLen (aCons (aVarM 0) aNil)) aNil))))) (tNot' (aTr (aCall F_is_list_of (aCons (a2 dIx (aVarM 1) (aC (.int 1))) (aCons (aF dLen (aCons (a2 dIx (aVarM 0) (aC (.int 0))) aNil)) aNil)))))) (aRet (aC (.bl false))) aSkip)
  (aSeq (aIfS (tOr' (a2t dNe (aF dLen (aCons (a2 dIx (aVarM 1) (aC (.int 0))) aNil)) (aF dLen (aCons (aVarM 0) aNil))) (a2t dNe (aF dLen (aCons (a2 dIx (aVarM 1) (aC (.int 1))) aNil)) (aF dLen (aCons (a2 dIx (aVarM 0) (aC (.int 0))) aNil)))) (aRet (aC (.bl false))) aSkip)
  (aRet (a2 (bv dIsN) (aCall F_corner_of (aCons (aCall F_ordered (aCons (aVar 0) (aCons (a2 dIx (aVarM 1) (aC (.int 0))) (aCons (a2 dIx (aVarM 1) (aC (.int 1))) aNil)))) aNil)) (aC .non)))))))
def F_are_orders : Fn := runF 0 a_are_orders
def a_ring : AS := (aSeq (aDropX (aCallX F_check_table (aCons (aVar 0) aNil)))
  (aSeq (aSet 1 (aCall F_ring_of (aCons (aVar 0) aNil)))
  (aSeq (aIfS (a2t dIsN (aVarM 1) (aC .non)) (aRaise "NoRing") aSkip)
  (aRet (aVar 1)))))
def F_ring : Fn := runF 1 a_ring
def e__law_is_ring_1 : AE := (a2 dIx (a2 dIx (aVarM 0) (a2 dIx (aVarM 1) (aVarM 4))) (aVarM 6))
def e__law_is_ring_2 : AE := (aF dInt (aCons (vOr (a2 (bv dEq) (aVarM 7) (aVarM 4)) (a2 (bv dEq) (aVarM 7) (a2 dMod (a2 dAdd (aVarM 4) (aC (.int 1))) (aVarM 3)))) aNil))
def b__law_is_ring_1 : AS := (aSeq (aSet 5 (aLst (aLc (aiT (aVar 2)) (agN 6) aYes e__law_is_ring_1 [6])))
  (aIfS (a2t dNe (aVarM 5) (aLst (aLc (aiR1 (aCons (aVarM 3) aNil)) (agN 7) aYes e__law_is_ring_2 [7]))) (aRet (aC (.bl false))) aSkip))
def a__law_is_ring : AS := (aSeq (aSet 3 (aF dLen (aCons (aVarM 1) aNil)))
  (aSeq (aFor (aiR1 (aCons (aVarM 3) aNil)) (agN 4) b__law_is_ring_1 [4, 5])
  (aRet (a2 (bv dGt) (aVarM 3) (aC (.int 2))))))
def F__law_is_ring : Fn := runF 5 a__law_is_ring
def e__law_grow_1 (F__law_grow : Fn) : AE := (aVar 6)
def t__law_grow_1 (F__law_grow : Fn) : AT := (a2t dEq (a2 dIx (a2 dIx (aVarM 0) (aVarM 6)) (aVarM 5)) (aC (.int 1)))
def b__law_grow_1 (F__law_grow : Fn) : AS := (aIfS (tAnd' (a2t dNin (aVarM 6) (aVarM 1)) (a2t dEq (a2 dIx (a2 dIx (aVarM 0) (aVarM 6)) (aVarM 5)) (aC (.int 1)))) (aIfS (aTr (aCall F__law_grow (aCons (aVar 0) (aCons (a2 dAdd (aVarM 1) (aTup (aCons (aVar 6) aNil))) (aCons (a2 dAdd (aVarM 2) (aTup (aCons (aVar 5) aNil))) aNil))))) (aRet (aC (.bl true))) aSkip) aSkip)
def b__law_grow_2 (F__law_grow : Fn) : AS := (aSeq (aSet 7 (aLst (aLc (aiT (aSl dSl (aVarM 1) aNoP (aPart (aNeg (aC (.int 1)))))) (agN 6) (t__law_grow_1 F__law_grow) (e__law_grow_1 F__law_grow) [6])))
  (aIfS (tAnd' (a2t dNin (aVarM 5) (aVarM 2)) (tAnd' (a2t dEq (a2 dIx (aVarM 4) (aVarM 5)) (aC (.int 1))) (a2t dEq (aVarM 7) (aLst aNil)))) (aFor (aiR2 (aCons (a2 dAdd (a2 dIx (aVarM 1) (aC (.int 0))) (aC (.int 1))) (aCons (aF dLen (aCons (aVarM 0) aNil)) aNil))) (agN 6) (b__law_grow_1 F__law_grow) [6]) aSkip))
def a__law_grow (F__law_grow : Fn) : AS := (aSeq (aSet 3 (aF dLen (aCons (aVarM 1) aNil)))
  (aSeq (aSet 4 (a2 dIx (aVarM 0) (a2 dIx (aVarM 1) (aNeg (aC (.int 1))))))
  (aSeq (aIfS (tAnd' (a2t dGt (aVarM 3) (aC (.int 2))) (aTr (aCall F__law_is_ring (aCons (aVar 0) (aCons (aVar 1) (aCons (aVar 2) aNil)))))) (aRet (aC (.bl true))) aSkip)
  (aSeq (aFor (aiR1 (aCons (aF dLen (aCons (aVarM 4) aNil)) aNil)) (agN 5) (b__law_grow_2 F__law_grow) [5, 7, 6])
  (aRet (aC (.bl false)))))))
def F__law_grow : Fn := itF (fun F => runF 5 (a__law_grow F)) 7
def b__law_ringed_1 : AS := (aIfS (tAnd' (a2t dEq (a2 dIx (a2 dIx (aVarM 0) (aVarM 1)) (aVarM 2)) (aC (.int 1))) (aTr (aCall F__law_grow (aCons (aVar 0) (aCons (aTup (aCons (aVar 1) aNil)) (aCons (aTup (aCons (aVar 2) aNil)) aNil)))))) (aRet (aC (.bl true))) aSkip)
def b__law_ringed_2 : AS := (aFor (aiR1 (aCons (aF dLen (aCons (a2 dIx (aVarM 0) (aC (.int 0))) aNil)) aNil)) (agN 2) b__law_ringed_1 [2])
def a__law_ringed : AS := (aSeq (aFor (aiR1 (aCons (aF dLen (aCons (aVarM 0) aNil)) aNil)) (agN 1) b__law_ringed_2 [1, 2])
  (aRet (aC (.bl false))))
def F__law_ringed : Fn := runF 2 a__law_ringed
def hd__law_ring : Xc → Option (Option D) := hdX ["NoRing", "RingError", "HasRing"] [("NoRing", fun x => .str (if ((subX x "RingError") && (!(subX x "HasRing"))) then "none" else "other")), ("HasRing", fun x => .str (if ((subX x "RingError") && (!(subX x "NoRing"))) then "ring" else "other"))]
def a__law_ring : AS := (aTry 2 (aRetX (xIf (a2t dEq (aVarM 0) (aC (.int 0))) (aCallX F_ring (aCons (aVar 1) aNil)) (aCallX F_orders (aCons (aVar 1) aNil)))) hd__law_ring)
def F__law_ring : Fn := runF 1 a__law_ring
def e__law_cornered_1 : AE := (a2 dIx (a2 dIx (aVarM 0) (aVarM 3)) (aVarM 4))
def e__law_cornered_2 : AE := (aLst (aLc (aiT (aVar 2)) (agN 4) aYes e__law_cornered_1 [4]))
def b__law_cornered_1 : AS := (aSeq (aSet 9 (aLst (aCons (a2 dIx (a2 dIx (aVarM 5) (aVarM 3)) (aVarM 4)) (aCons (a2 dIx (a2 dIx (aVarM 5) (aVarM 3)) (aVarM 8)) (aCons (a2 dIx (a2 dIx (aVarM 5) (aVarM 7)) (aVarM 4)) (aCons (a2 dIx (a2 dIx (aVarM 5) (aVarM 7)) (aVarM 8)) aNil))))))
  (aIfS (a2t dEq (aVarM 9) (aLst (aCons (aC (.int 1)) (aCons (aC (.int 1)) (aCons (aC (.int 1)) (aCons (aC (.int 0)) aNil)))))) (aApp 6 (aTup (aCons (aVar 3) (aCons (aVar 7) (aCons (aVar 4) (aCons (aVar 8) aNil)))))) aSkip))
def b__law_cornered_2 : AS := (aFor (aiR2 (aCons (a2 dAdd (aVarM 4) (aC (.int 1))) (aCons (aF dLen (aCons (aVarM 2) aNil)) aNil))) (agN 8) b__law_cornered_1 [8, 9])
def b__law_cornered_3 : AS := (aFor (aiR1 (aCons (aF dLen (aCons (aVarM 2) aNil)) aNil)) (agN 4) b__law_cornered_2 [4, 8, 9])
def b__law_cornered_4 : AS := (aFor (aiR2 (aCons (a2 dAdd (aVarM 3) (aC (.int 1))) (aCons (aF dLen (aCons (aVarM 1) aNil)) aNil))) (agN 7) b__law_cornered_3 [7, 4, 8, 9])
def a__law_cornered : AS := (aSeq (aSet 5 (aLst (aLc (aiT (aVar 1)) (agN 3) aYes e__law_cornered_2 [3])))
  (aSeq (aSetM 6 aNil)
  (aSeq (aFor (aiR1 (aCons (aF dLen (aCons (aVarM 1) aNil)) aNil)) (agN 3) b__law_cornered_4 [3, 7, 4, 8, 9])
  (aFrz 6 (aRet (aVar 6))))))
def F__law_cornered : Fn := runF 7 a__law_cornered
end Lw
set_option Elab.async false
set_option linter.all false
set_option maxRecDepth 100000
set_option maxHeartbeats 4000000
set_option autoImplicit false
namespace Lw
open PySem L2 Rf

/-! ## loops by places -/
theorem forL_qk {g : AG} {b : AS} {l : List Nat} {E : En} (q : Nat → Option D) : ∀ (ds : List D) (k : Nat), (∀ i d, ds[i]? = some d → ∃ E1, g d E = some E1 ∧ (q (k + i) = none → ∃ E2, b E1 = some (.nx E2) ∧ wipeE E2 l = E) ∧ (∀ v, q (k + i) = some v → b E1 = some (.rt v))) →
    forL g b l ds E = match (List.range' k ds.length).findSome? q with
      | some v => some (.rt v)
      | none => some (.nx E)
  | [], _, _ => rfl
  | d :: ds, k, h => by
    obtain ⟨E1, e1, h1, h2⟩ := h 0 d rfl
    rw [Nat.add_zero] at h1 h2
    have ih := forL_qk (g := g) (b := b) (l := l) q ds (k + 1) fun i d' hd => by
      rw [show k + 1 + i = k + (i + 1) by omega]
      exact h (i + 1) d' (by simpa using hd)
    rw [forL, e1, List.length_cons, List.range'_succ]
    dsimp only
    cases z : q k with
    | some v => rw [h2 v z, List.findSome?_cons_of_isSome (by rw [z]; rfl), z]
    | none =>
      obtain ⟨E2, e2, e3⟩ := h1 z
      rw [e2, List.findSome?_cons_of_isNone (by rw [z]; rfl)]
      dsimp only
      rw [e3]
      exact ih
theorem forL_q {g : AG} {b : AS} {l : List Nat} {E : En} (q : Nat → Option D) (ds : List D) (h : ∀ i d, ds[i]? = some d → ∃ E1, g d E = some E1 ∧ (q i = none → ∃ E2, b E1 = some (.nx E2) ∧ wipeE E2 l = E) ∧ (∀ v, q i = some v → b E1 = some (.rt v))) :
    forL g b l ds E = match (List.range ds.length).findSome? q with
      | some v => some (.rt v)
      | none => some (.nx E) := by
  rw [List.range_eq_range']
  exact forL_qk q ds 0 fun i d hd => by rw [Nat.zero_add]; exact h i d hd
theorem find_all {n : Nat} {p : Nat → Bool} {r : D} : (match (List.range n).findSome? fun i => if p i then none else some r with
      | some v => some (Out.rt v)
      | none => some (.nx ([] : En))) = if (List.range n).all p then some (.nx []) else some (.rt r) := by
  cases h : (List.range n).all p with
  | true =>
    have : (List.range n).findSome? (fun i => if p i then none else some r) = none := by
      rw [List.findSome?_eq_none_iff]
      intro i hi
      rw [List.all_eq_true.mp h i hi]
      rfl
    rw [this]; rfl
  | false =>
    obtain ⟨i, hi, hp⟩ := List.all_eq_false.mp h
    cases z : (List.range n).findSome? fun i => if p i then none else some r with
    | none =>
      rw [List.findSome?_eq_none_iff] at z
      have := z i hi
      rw [if_neg hp] at this
      cases this
    | some v =>
      obtain ⟨j, hj, e⟩ := List.exists_of_findSome?_eq_some z
      split at e
      · cases e
      · cases e; rfl
/-- every turn goes on, or hands back r -/
theorem forL_p {g : AG} {b : AS} {l : List Nat} {E : En} {r : D} (p : Nat → Bool) (ds : List D) (h : ∀ i d, ds[i]? = some d → ∃ E1, g d E = some E1 ∧ (p i = true → ∃ E2, b E1 = some (.nx E2) ∧ wipeE E2 l = E) ∧ (p i = false → b E1 = some (.rt r))) :
    forL g b l ds E = if (List.range ds.length).all p then some (.nx E) else some (.rt r) := by
  rw [forL_q (fun i => if p i then none else some r) ds fun i d hd => by
    obtain ⟨E1, e1, h1, h2⟩ := h i d hd
    refine ⟨E1, e1, fun z => ?_, fun v z => ?_⟩
    · cases y : p i with
      | true => exact h1 y
      | false => rw [y] at z; cases z
    · cases y : p i with
      | true => rw [y] at z; cases z
      | false => rw [y] at z; cases z; exact h2 y]
  cases hh : (List.range ds.length).all p with
  | true =>
    have : (List.range ds.length).findSome? (fun i => if p i then none else some r) = none := by
      rw [List.findSome?_eq_none_iff]
      intro i hi
      rw [List.all_eq_true.mp hh i hi]
      rfl
    rw [this]; rfl
  | false =>
    obtain ⟨i, hi, hp⟩ := List.all_eq_false.mp hh
    cases z : (List.range ds.length).findSome? fun i => if p i then none else some r with
    | none =>
      rw [List.findSome?_eq_none_iff] at z
      have := z i hi
      rw [if_neg hp] at this
      cases this
    | some v =>
      obtain ⟨j, hj, e⟩ := List.exists_of_findSome?_eq_some z
      split at e
      · cases e
      · cases e; rfl
/-- a comprehension by places -/
theorem compL_i {ag : AG} {f : AE} {E : En} {α : Type} (xs : List α) (en : α → D) (y : α → D) (h : ∀ x ∈ xs, ∃ E1, ag (en x) E = some E1 ∧ f E1 = some (y x)) : compL ag aYes f E (xs.map en) = some (xs.map y) := by
  induction xs with
  | nil => rfl
  | cons x xs ih =>
    obtain ⟨E1, e1, e2⟩ := h x (by simp)
    rw [List.map_cons, compL, e1]
    dsimp only
    rw [show aYes E1 = some true from rfl]
    dsimp only
    rw [e2]
    dsimp only
    rw [ih fun z hz => h z (by simp [hz])]
    rfl
theorem compL_f {ag : AG} {t : AT} {f : AE} {E : En} {α : Type} (xs : List α) (en : α → D) (p : α → Bool) (y : α → D) (h : ∀ x ∈ xs, ∃ E1, ag (en x) E = some E1 ∧ t E1 = some (p x) ∧ (p x = true → f E1 = some (y x))) : compL ag t f E (xs.map en) = some ((xs.filter p).map y) := by
  induction xs with
  | nil => rfl
  | cons x xs ih =>
    obtain ⟨E1, e1, e2, e3⟩ := h x (by simp)
    rw [List.map_cons, compL, e1]
    dsimp only
    rw [e2]
    have i2 := ih fun z hz => h z (by simp [hz])
    cases z : p x with
    | true => rw [List.filter_cons_of_pos z]; dsimp only; rw [e3 z, i2]; rfl
    | false => rw [List.filter_cons_of_neg (by rw [z]; decide)]; exact i2

/-! ## tables and lists of places -/
def iN (n : Nat) : D := .int (n : Nat)
def encL (xs : List Nat) : D := .tup (xs.map iN)
def tb (t : Tb) (i j : Nat) : Bool := (t.getD i []).getD j false
theorem rg_iN (n : Nat) : rg 0 n = (List.range n).map iN := by
  unfold rg
  apply List.map_congr_left
  intro i _
  unfold iN
  rw [Int.zero_add]
section
variable {t : Tb} {R C : Nat}
theorem Sz.at (h : Sz t R C) {i : Nat} (hi : i < R) : ∃ r, t[i]? = some r ∧ t.getD i [] = r ∧ r.length = C := by
  have hl : i < t.length := by rw [h.len]; exact hi
  refine ⟨t[i], List.getElem?_eq_getElem hl, ?_, h.row _ (List.getElem_mem hl)⟩
  rw [List.getD_eq_getElem?_getD, List.getElem?_eq_getElem hl]
  rfl
theorem Sz.ix (h : Sz t R C) {i : Nat} (hi : i < R) : dIx (encT t) (iN i) = some (encR (t.getD i [])) := by
  obtain ⟨r, h1, h2, _⟩ := h.at hi
  rw [h2]
  exact atI_nat (by rw [List.getElem?_map, h1]; rfl)
theorem Sz.cell (h : Sz t R C) {i j : Nat} (hi : i < R) (hj : j < C) : dIx (encR (t.getD i [])) (iN j) = some (bI (tb t i j)) := by
  obtain ⟨r, h1, h2, h3⟩ := h.at hi
  have hj2 : j < r.length := by rw [h3]; exact hj
  unfold tb
  rw [h2]
  refine atI_nat ?_
  rw [List.getElem?_map, List.getElem?_eq_getElem hj2, List.getD_eq_getElem?_getD, List.getElem?_eq_getElem hj2]
  rfl
theorem Sz.lenT (h : Sz t R C) : dLen [encT t] = some (iN R) := by
  show some (D.int ((t.map encR).length : Nat)) = _
  rw [List.length_map, h.len]
  rfl
theorem Sz.lenR (h : Sz t R C) {i : Nat} (hi : i < R) : dLen [encR (t.getD i [])] = some (iN C) := by
  obtain ⟨r, h1, h2, h3⟩ := h.at hi
  rw [h2]
  show some (D.int ((r.map bI).length : Nat)) = _
  rw [List.length_map, h3]
  rfl
end
theorem len_encL (xs : List Nat) : dLen [encL xs] = some (iN xs.length) := by
  show some (D.int ((xs.map iN).length : Nat)) = _
  rw [List.length_map]
  rfl
theorem ix_encL {xs : List Nat} {i : Nat} (h : i < xs.length) : dIx (encL xs) (iN i) = some (iN (xs.getD i 0)) := by
  refine atI_nat ?_
  rw [List.getElem?_map, List.getElem?_eq_getElem h, List.getD_eq_getElem?_getD, List.getElem?_eq_getElem h]
  rfl
theorem eq_iN (a b : Nat) : dEq (iN a) (iN b) = some (a == b) := by
  show some ((a : Int) == (b : Int)) = _
  congr 1
  rw [Bool.eq_iff_iff, beq_iff_eq, beq_iff_eq]
  omega
theorem eq_bI (b : Bool) : dEq (bI b) (.int 1) = some b := by cases b <;> rfl
theorem eq_bI0 (b : Bool) : dEq (bI b) (.int 0) = some (!b) := by cases b <;> rfl
theorem pls_iN (xs : List Nat) (n : Nat) : pls (xs.map iN) n = true := by
  induction xs with
  | nil => rfl
  | cons x xs ih => rw [List.map_cons, pls, ih]; rfl
theorem pl_encL (xs : List Nat) (n : Nat) : pl (encL xs) (n + 1) = true := by rw [encL, pl]; exact pls_iN xs n
theorem nin_encL (x : Nat) (xs : List Nat) : dNin (iN x) (encL xs) = some (!decide (x ∈ xs)) := by
  have h1 : dIn (iN x) (encL xs) = some ((xs.map iN).any fun y => deq y (iN x)) := by
    show (if pl (iN x) 8 && pls (xs.map iN) 8 then _ else none) = _
    rw [pls_iN]
    rfl
  unfold dNin
  rw [h1]
  have : ((xs.map iN).any fun y => deq y (iN x)) = decide (x ∈ xs) := by
    rw [List.any_map, Bool.eq_iff_iff, List.any_eq_true, decide_eq_true_eq]
    constructor
    · rintro ⟨y, hy, e⟩
      have : ((y : Nat) : Int) = (x : Nat) := by simpa [iN, deq] using e
      have : y = x := by omega
      rw [← this]; exact hy
    · intro hx
      exact ⟨x, hx, by simp [iN, deq]⟩
  rw [this]
theorem mod_iN {a b : Nat} (h : 0 < b) : dMod (iN a) (iN b) = some (iN (a % b)) := by
  show (if decide ((0 : Int) < (b : Nat)) then some (D.int ((a : Int) % (b : Int))) else none) = _
  rw [decide_eq_true (by omega : (0 : Int) < (b : Nat)), if_pos rfl]
  rfl
theorem add_iN (a b : Nat) : dAdd (iN a) (iN b) = some (iN (a + b)) := by
  show some (D.int ((a : Int) + (b : Int))) = _
  rfl
theorem one_iN : D.int 1 = iN 1 := rfl
theorem zero_iN : D.int 0 = iN 0 := rfl
theorem en_get {xs : List Nat} {i : Nat} {d : D} (h : (enD (xs.map iN))[i]? = some d) : i < xs.length ∧ d = .tup [iN i, iN (xs.getD i 0)] := by
  unfold enD at h
  rw [List.getElem?_mapIdx, List.getElem?_map] at h
  cases z : xs[i]? with
  | none => rw [z] at h; cases h
  | some x =>
    rw [z] at h
    cases h
    obtain ⟨h1, h2⟩ := List.getElem?_eq_some_iff.mp z
    refine ⟨h1, ?_⟩
    rw [List.getD_eq_getElem?_getD, z]
    rfl
theorem all_lt {xs : List Nat} {n i : Nat} (h : ∀ a ∈ xs, a < n) (hi : i < xs.length) : xs.getD i 0 < n := by
  rw [List.getD_eq_getElem?_getD, List.getElem?_eq_getElem hi]
  exact h _ (List.getElem_mem hi)
end Lw
set_option Elab.async false
set_option linter.all false
set_option maxRecDepth 100000
set_option maxHeartbeats 4000000
set_option autoImplicit false
namespace Lw
open PySem L2 Rf

/-! ## rings_on -/
def wantd (k i j : Nat) : Bool := j == i || j == (i + 1) % k
def ringOn (t : Tb) (rows cols : List Nat) : Bool := (List.range rows.length).all fun i => (List.range cols.length).all fun j => tb t (rows.getD i 0) (cols.getD j 0) == wantd rows.length i j
section
variable {t : Tb} {R C : Nat} {rows cols : List Nat}
theorem rings_cell (h : Sz t R C) (hr : ∀ a ∈ rows, a < R) (hc : ∀ a ∈ cols, a < C) {i j : Nat} (hi : i < rows.length) (hj : j < cols.length) :
    b_rings_on_1 [.im (encT t), .im (encL rows), .im (encL cols), .im (iN rows.length), .im (iN i), .im (iN (rows.getD i 0)), .im (iN j), .im (iN (cols.getD j 0)), .no] =
      if tb t (rows.getD i 0) (cols.getD j 0) == wantd rows.length i j then some (.nx [.im (encT t), .im (encL rows), .im (encL cols), .im (iN rows.length), .im (iN i), .im (iN (rows.getD i 0)), .im (iN j), .im (iN (cols.getD j 0)), .im (.bl (wantd rows.length i j))]) else some (.rt (.bl false)) := by
  have hl : 0 < rows.length := by omega
  have e1 := h.ix (all_lt hr hi)
  have e2 := h.cell (all_lt hr hi) (all_lt hc hj)
  have w : vOr (a2 (bv dEq) (aVarM 6) (aVarM 4)) (a2 (bv dEq) (aVarM 6) (a2 dMod (a2 dAdd (aVarM 4) (aC (.int 1))) (aVarM 3))) [.im (encT t), .im (encL rows), .im (encL cols), .im (iN rows.length), .im (iN i), .im (iN (rows.getD i 0)), .im (iN j), .im (iN (cols.getD j 0)), .no] = some (.bl (wantd rows.length i j)) := by
    simp only [vOr, a2, aVarM, List.getElem?_cons_zero, List.getElem?_cons_succ, bv, eq_iN, aC, one_iN, add_iN, mod_iN hl]
    unfold wantd
    cases j == i <;> rfl
  unfold b_rings_on_1
  simp only [aSeq, aSet, w, List.set, aIfS, a2t, a2, aVarM, List.getElem?_cons_zero, List.getElem?_cons_succ, e1, e2, aC, bv, eq_bI, aRet, aSkip]
  cases tb t (rows.getD i 0) (cols.getD j 0) <;> cases wantd rows.length i j <;> rfl
theorem rings_on_eq (h : Sz t R C) (hr : ∀ a ∈ rows, a < R) (hc : ∀ a ∈ cols, a < C) (lr : rows.length ≤ 1000) (lc : cols.length ≤ 1000) : F_rings_on [encT t, encL rows, encL cols] = some (.ok (.bl (ringOn t rows cols))) := by
  unfold F_rings_on a_rings_on
  simp only [runF, en0, List.getElem?_cons_zero, List.getElem?_cons_succ, List.set, List.map_cons, List.map_nil, List.replicate, List.cons_append, List.nil_append, List.length_cons, List.length_nil, if_true, aSeq, aSet, aF, aCons, aVarM, aNil, len_encL]
  have l1 : (rows.map iN).length ≤ 100000 := by rw [List.length_map]; omega
  have l2 : (cols.map iN).length ≤ 100000 := by rw [List.length_map]; omega
  have e1 : aiEnT (aCons (aVar 1) aNil) [.im (encT t), .im (encL rows), .im (encL cols), .im (iN rows.length), .no, .no, .no, .no, .no] = some (enD (rows.map iN)) := by
    simp only [aiEnT, aCons, aVar, aNil, List.getElem?_cons_zero, List.getElem?_cons_succ, encL, if_pos l1]
  have inner : ∀ (i x : Nat), aiEnT (aCons (aVar 2) aNil) [.im (encT t), .im (encL rows), .im (encL cols), .im (iN rows.length), .im (iN i), .im (iN x), .no, .no, .no] = some (enD (cols.map iN)) := fun i x => by
    simp only [aiEnT, aCons, aVar, aNil, List.getElem?_cons_zero, List.getElem?_cons_succ, encL, if_pos l2]
  have main : forL (agT 2 (agCons (agN 4) (agCons (agN 5) agNil))) b_rings_on_2 [4, 5, 6, 7, 8] (enD (rows.map iN)) [.im (encT t), .im (encL rows), .im (encL cols), .im (iN rows.length), .no, .no, .no, .no, .no] = _ :=
    forL_p (r := .bl false) (fun i => (List.range cols.length).all fun j => tb t (rows.getD i 0) (cols.getD j 0) == wantd rows.length i j) _ fun i d hd => by
      obtain ⟨hi, rfl⟩ := en_get hd
      refine ⟨[.im (encT t), .im (encL rows), .im (encL cols), .im (iN rows.length), .im (iN i), .im (iN (rows.getD i 0)), .no, .no, .no], rfl, ?_⟩
      have sub : forL (agT 2 (agCons (agN 6) (agCons (agN 7) agNil))) b_rings_on_1 [6, 7, 8] (enD (cols.map iN)) [.im (encT t), .im (encL rows), .im (encL cols), .im (iN rows.length), .im (iN i), .im (iN (rows.getD i 0)), .no, .no, .no] = _ :=
        forL_p (r := .bl false) (fun j => tb t (rows.getD i 0) (cols.getD j 0) == wantd rows.length i j) _ fun j d' hd' => by
          obtain ⟨hj, rfl⟩ := en_get hd'
          refine ⟨[.im (encT t), .im (encL rows), .im (encL cols), .im (iN rows.length), .im (iN i), .im (iN (rows.getD i 0)), .im (iN j), .im (iN (cols.getD j 0)), .no], rfl, fun z => ?_, fun z => ?_⟩
          · exact ⟨_, by rw [rings_cell h hr hc hi hj, if_pos z], rfl⟩
          · rw [rings_cell h hr hc hi hj, z]; rfl
      rw [enD_len, List.length_map] at sub
      refine ⟨fun z => ⟨[.im (encT t), .im (encL rows), .im (encL cols), .im (iN rows.length), .im (iN i), .im (iN (rows.getD i 0)), .no, .no, .no], ?_, rfl⟩, fun z => ?_⟩
      · unfold b_rings_on_2 aFor
        rw [inner]
        dsimp only [wipeE, List.set]
        rw [sub, if_pos z]
      · unfold b_rings_on_2 aFor
        rw [inner]
        dsimp only [wipeE, List.set]
        rw [sub, z]
        rfl
  rw [enD_len, List.length_map] at main
  simp only [aFor, e1, wipeE, List.set]
  rw [main]
  unfold ringOn
  cases (List.range rows.length).all fun i => (List.range cols.length).all fun j => tb t (rows.getD i 0) (cols.getD j 0) == wantd rows.length i j <;> rfl
end

/-! ## arrangements -/
def arrs (n : Nat) : Nat → List (List Nat)
  | 0 => [[]]
  | k + 1 => (arrs n k).flatMap fun one => ((List.range n).filter fun m => !decide (m ∈ one)).map fun m => one ++ [m]
theorem arrs_len (n : Nat) : ∀ k, (arrs n k).length ≤ n ^ k
  | 0 => Nat.le_refl _
  | k + 1 => by
    rw [arrs, List.length_flatMap, Nat.pow_succ]
    have : ∀ l : List (List Nat), (l.map fun one => (((List.range n).filter fun m => !decide (m ∈ one)).map fun m => one ++ [m]).length).sum ≤ l.length * n := by
      intro l
      induction l with
      | nil => simp
      | cons x l ih =>
        rw [List.map_cons, List.sum_cons, List.length_cons, Nat.succ_mul]
        have h1 : (((List.range n).filter fun m => !decide (m ∈ x)).map fun m => x ++ [m]).length ≤ n := by
          rw [List.length_map]
          exact Nat.le_trans (List.length_filter_le _ _) (by rw [List.length_range]; exact Nat.le_refl _)
        omega
    exact Nat.le_trans (this _) (Nat.mul_le_mul_right _ (arrs_len n k))
theorem mem_arrs (n : Nat) : ∀ (k : Nat) (x : List Nat), x ∈ arrs n k ↔ x.length = k ∧ x.Nodup ∧ ∀ a ∈ x, a < n
  | 0, x => by
    rw [arrs, List.mem_singleton]
    constructor
    · rintro rfl; simp
    · rintro ⟨h, _⟩; exact List.length_eq_zero_iff.mp h
  | k + 1, x => by
    rw [arrs, List.mem_flatMap]
    constructor
    · rintro ⟨one, h1, h2⟩
      obtain ⟨m, hm, rfl⟩ := List.mem_map.mp h2
      rw [List.mem_filter, List.mem_range] at hm
      obtain ⟨a1, a2, a3⟩ := (mem_arrs n k one).mp h1
      have hno : m ∉ one := by simpa using hm.2
      refine ⟨by rw [List.length_append, a1]; rfl, ?_, ?_⟩
      · rw [List.nodup_append]
        refine ⟨a2, by simp, ?_⟩
        intro a ha b hb e
        rw [List.mem_singleton] at hb
        subst hb e
        exact hno ha
      · intro a ha
        rcases List.mem_append.mp ha with ha | ha
        · exact a3 a ha
        · rw [List.mem_singleton] at ha; subst ha; exact hm.1
    · rintro ⟨h1, h2, h3⟩
      have hne : x ≠ [] := by rintro rfl; cases h1
      refine ⟨x.dropLast, ?_, ?_⟩
      · refine (mem_arrs n k _).mpr ⟨by rw [List.length_dropLast, h1]; rfl, (List.dropLast_sublist x).nodup h2, fun a ha => h3 a ((List.dropLast_sublist x).subset ha)⟩
      · refine List.mem_map.mpr ⟨x.getLast hne, ?_, List.dropLast_concat_getLast hne⟩
        rw [List.mem_filter, List.mem_range]
        refine ⟨h3 _ (List.getLast_mem hne), ?_⟩
        have h4 := h2
        rw [← List.dropLast_concat_getLast hne, List.nodup_append] at h4
        have := h4.2.2
        simp only [Bool.not_eq_true', decide_eq_false_iff_not]
        intro hm
        exact this _ hm _ (List.mem_singleton.mpr rfl) rfl
theorem arr_step (n k : Nat) (one : List Nat) (found : D) (dn d3 d4 : Sl) (hn : n ≤ 1000) (ho : one.length ≤ 1000) : aLc (aiR1 (aCons (aVarM 0) aNil)) (agN 6) t_arrangements_1 e_arrangements_1 [6] [.im (iN n), .im (iN k), .im found, d3, d4, .im (encL one), dn] =
    some ((((List.range n).filter fun m => !decide (m ∈ one)).map fun m => one ++ [m]).map encL) := by
  have e1 : aiR1 (aCons (aVarM 0) aNil) [.im (iN n), .im (iN k), .im found, d3, d4, .im (encL one), dn] = some ((List.range n).map iN) := by
    have hb : ((n : Nat) : Int) ≤ 100000 ∧ -100000 ≤ ((n : Nat) : Int) := by omega
    simp only [aiR1, aCons, aVarM, aNil, List.getElem?_cons_zero, iN, if_pos hb, Int.toNat_natCast]
    rw [← rg_iN n]
  unfold aLc
  rw [e1]
  dsimp only
  rw [compL_f (List.range n) iN (fun m => !decide (m ∈ one)) (fun m => encL (one ++ [m])) fun m hm => ?_, List.map_map]
  · rfl
  · refine ⟨[.im (iN n), .im (iN k), .im found, d3, d4, .im (encL one), .im (iN m)], rfl, ?_, fun _ => ?_⟩
    · unfold t_arrangements_1
      simp only [a2t, aVarM, List.getElem?_cons_zero, List.getElem?_cons_succ, nin_encL]
    · unfold e_arrangements_1
      have hs : (one.map iN).length + [iN m].length ≤ 100000 := by rw [List.length_map]; simp; omega
      simp only [a2, aVarM, aTup, aCons, aVar, aNil, List.getElem?_cons_zero, List.getElem?_cons_succ, encL, dAdd, if_pos hs, List.map_append, List.map_cons, List.map_nil]
theorem sum_take_le {α : Type} (f : α → List D) (l : List α) (i : Nat) : ((l.take i).flatMap f).length ≤ (l.flatMap f).length := by
  have : l.flatMap f = (l.take i).flatMap f ++ (l.drop i).flatMap f := by rw [← List.flatMap_append, List.take_append_drop]
  rw [this, List.length_append]
  omega
def stp (n : Nat) (one : List Nat) : List (List Nat) := ((List.range n).filter fun m => !decide (m ∈ one)).map fun m => one ++ [m]
theorem arr_loop (n m k : Nat) (hn : n ≤ 5) (hk : k < 5) (t3 : Sl) : forL (agN 5) b_arrangements_1 [5] ((arrs n k).map encL) [.im (iN n), .im (iN m), .im (.lst ((arrs n k).map encL)), t3, .mu [], .no, .no] =
    some (.nx [.im (iN n), .im (iN m), .im (.lst ((arrs n k).map encL)), t3, .mu ((arrs n (k + 1)).map encL), .no, .no]) := by
  have hpow : ∀ j, j ≤ 5 → n ^ j ≤ 3125 := fun j hj => Nat.le_trans (Nat.pow_le_pow_left hn j) (Nat.le_trans (Nat.pow_le_pow_right (by omega) hj) (by decide))
  have hbig := Nat.le_trans (arrs_len n (k + 1)) (hpow (k + 1) (by omega))
  obtain ⟨E', h1, h2⟩ := forL_ind0 (g := agN 5) (b := b_arrangements_1) (l := [5]) (ds := (arrs n k).map encL) (E := [.im (iN n), .im (iN m), .im (.lst ((arrs n k).map encL)), t3, .mu [], .no, .no])
    (fun i E => E = [.im (iN n), .im (iN m), .im (.lst ((arrs n k).map encL)), t3, .mu ((((arrs n k).take i).flatMap (stp n)).map encL), .no, .no]) (by simp) (fun i d E hd hE => by
      subst hE
      rw [List.getElem?_map] at hd
      cases z : (arrs n k)[i]? with
      | none => rw [z] at hd; cases hd
      | some one =>
        rw [z] at hd
        cases hd
        have hone : one.length = k := ((mem_arrs n k one).mp (List.mem_of_getElem? z)).1
        refine ⟨[.im (iN n), .im (iN m), .im (.lst ((arrs n k).map encL)), t3, .mu ((((arrs n k).take i).flatMap (stp n)).map encL), .im (encL one), .no], [.im (iN n), .im (iN m), .im (.lst ((arrs n k).map encL)), t3, .mu ((((arrs n k).take (i + 1)).flatMap (stp n)).map encL), .im (encL one), .no], rfl, ?_, rfl⟩
        have e2 : ((arrs n k).take (i + 1)).flatMap (stp n) = ((arrs n k).take i).flatMap (stp n) ++ stp n one := by
          rw [List.take_add_one, z, List.flatMap_append]
          simp
        have hlen : ((((arrs n k).take i).flatMap (stp n)).map encL).length + ((stp n one).map encL).length ≤ 100000 := by
          rw [List.length_map, List.length_map, ← List.length_append, ← e2]
          have : ((arrs n k).take (i + 1)).flatMap (stp n) ++ ((arrs n k).drop (i + 1)).flatMap (stp n) = arrs n (k + 1) := by
            rw [← List.flatMap_append, List.take_append_drop]
            rfl
          have l2 : (((arrs n k).take (i + 1)).flatMap (stp n)).length ≤ (arrs n (k + 1)).length := by
            rw [← this, List.length_append]
            omega
          omega
        unfold b_arrangements_1 aExt
        simp only [List.getElem?_cons_zero, List.getElem?_cons_succ]
        rw [arr_step n m one _ _ _ _ (by omega) (by omega)]
        dsimp only
        rw [show ((((List.range n).filter fun m => !decide (m ∈ one)).map fun m => one ++ [m]).map encL) = (stp n one).map encL from rfl, if_pos hlen, e2, List.map_append]
        rfl)
  rw [h1, h2, List.length_map, List.take_length]
  rfl
theorem arrangements_eq (n m : Nat) (hn : n ≤ 5) (hm : m ≤ 5) : F_arrangements [iN n, iN m] = some (.ok (.lst ((arrs n m).map encL))) := by
  unfold F_arrangements a_arrangements
  have hb : ((m : Nat) : Int) ≤ 100000 ∧ -100000 ≤ ((m : Nat) : Int) := by omega
  have e1 : aiR1 (aCons (aVarM 1) aNil) [.im (iN n), .im (iN m), .im (.lst [.tup []]), .no, .no, .no, .no] = some ((List.range m).map iN) := by
    simp only [aiR1, aCons, aVarM, aNil, List.getElem?_cons_zero, List.getElem?_cons_succ, iN, if_pos hb, Int.toNat_natCast]
    rw [← rg_iN m]
  obtain ⟨E', h1, h2⟩ := forL_ind0 (g := agN 3) (b := b_arrangements_2) (l := [3, 4, 5]) (ds := (List.range m).map iN) (E := [.im (iN n), .im (iN m), .im (.lst [.tup []]), .no, .no, .no, .no])
    (fun i E => E = [.im (iN n), .im (iN m), .im (.lst ((arrs n i).map encL)), .no, .no, .no, .no]) rfl (fun i d E hd hE => by
      subst hE
      have hi : i < m := by
        have := (List.getElem?_eq_some_iff.mp hd).1
        rw [List.length_map, List.length_range] at this
        exact this
      have hpow : n ^ i ≤ 3125 := Nat.le_trans (Nat.pow_le_pow_left hn i) (Nat.le_trans (Nat.pow_le_pow_right (by omega) (by omega : i ≤ 5)) (by decide))
      have hl : ((arrs n i).map encL).length ≤ 100000 := by
        rw [List.length_map]
        have := arrs_len n i
        omega
      refine ⟨[.im (iN n), .im (iN m), .im (.lst ((arrs n i).map encL)), .im d, .no, .no, .no], [.im (iN n), .im (iN m), .im (.lst ((arrs n (i + 1)).map encL)), .im d, .im (.lst ((arrs n (i + 1)).map encL)), .no, .no], rfl, ?_, rfl⟩
      unfold b_arrangements_2
      simp only [aSeq, aSetM, aNil, List.set, aFor, aiL, aVar, List.getElem?_cons_zero, List.getElem?_cons_succ, if_pos hl, wipeE, arr_loop n m i hn (by omega), aFrz, aSet])
  simp only [runF, en0, List.getElem?_cons_zero, List.getElem?_cons_succ, List.set, List.map_cons, List.map_nil, List.replicate, List.cons_append, List.nil_append, List.length_cons, List.length_nil, if_true, aSeq, aSet, aLst, aCons, aTup, aNil, aFor, e1, wipeE, h1, h2, aRet, aVar, ofOut, List.length_map, List.length_range]
end Lw
set_option Elab.async false
set_option linter.all false
set_option maxRecDepth 100000
set_option maxHeartbeats 4000000
set_option autoImplicit false
namespace Lw
open PySem L2 Rf

/-- a search over what stands for xs -/
theorem forL_m {α : Type} {g : AG} {b : AS} {l : List Nat} {E : En} (en : α → D) (q : α → Option D) (xs : List α) (h : ∀ x ∈ xs, ∃ E1, g (en x) E = some E1 ∧ (q x = none → ∃ E2, b E1 = some (.nx E2) ∧ wipeE E2 l = E) ∧ (∀ v, q x = some v → b E1 = some (.rt v))) :
    forL g b l (xs.map en) E = match xs.findSome? q with
      | some v => some (.rt v)
      | none => some (.nx E) := by
  induction xs with
  | nil => rfl
  | cons x xs ih =>
    obtain ⟨E1, e1, h1, h2⟩ := h x (by simp)
    rw [List.map_cons, forL, e1]
    dsimp only
    cases z : q x with
    | some v => rw [h2 v z, List.findSome?_cons_of_isSome (by rw [z]; rfl), z]
    | none =>
      obtain ⟨E2, e2, e3⟩ := h1 z
      rw [e2, List.findSome?_cons_of_isNone (by rw [z]; rfl)]
      dsimp only
      rw [e3]
      exact ih fun y hy => h y (by simp [hy])
/-! ## min of places -/
theorem kin_iN (xs : List Nat) : kin (xs.map iN) = true := by
  unfold kin
  rw [pls_iN]
  simp only [Bool.true_and, Bool.and_eq_true, List.all_eq_true, List.mem_map]
  refine ⟨?_, ?_⟩
  · rintro x ⟨a, _, rfl⟩ y ⟨b, _, rfl⟩
    simp [iN, toPy, PySem.W.alike]
  · rintro x ⟨a, _, rfl⟩
    rfl
theorem dlt_iN (a b : Nat) : dlt (iN a) (iN b) = decide (a < b) := by
  unfold dlt iN
  rw [toPy, toPy, PySem.W.dataLt_int]
  congr 1
  exact propext (by omega)
theorem minF_iN (x : Nat) (xs : List Nat) : minF (iN x) (xs.map iN) = iN (xs.foldl min x) := by
  unfold minF
  induction xs generalizing x with
  | nil => rfl
  | cons y ys ih =>
    rw [List.map_cons, List.foldl_cons, List.foldl_cons, dlt_iN]
    have : (if decide (y < x) = true then iN y else iN x) = iN (min x y) := by
      by_cases h : y < x
      · rw [if_pos (by simpa using h), Nat.min_eq_right (by omega)]
      · rw [if_neg (by simpa using h), Nat.min_eq_left (by omega)]
    rw [this, ih]
theorem min_encL (x : Nat) (xs : List Nat) : dMinP [encL (x :: xs)] = some (iN (xs.foldl min x)) := by
  show (if kin ((x :: xs).map iN) then some (minF (iN x) (xs.map iN)) else none) = _
  rw [kin_iN, minF_iN]
  rfl
theorem foldl_min (x : Nat) (xs : List Nat) : xs.foldl min x ≤ x ∧ (∀ a ∈ xs, xs.foldl min x ≤ a) ∧ (xs.foldl min x = x ∨ xs.foldl min x ∈ xs) := by
  induction xs generalizing x with
  | nil => exact ⟨Nat.le_refl _, fun _ h => (nomatch h), .inl rfl⟩
  | cons y ys ih =>
    rw [List.foldl_cons]
    obtain ⟨h1, h2, h3⟩ := ih (min x y)
    have hm : min x y ≤ x ∧ min x y ≤ y := ⟨Nat.min_le_left _ _, Nat.min_le_right _ _⟩
    refine ⟨by omega, fun a ha => ?_, ?_⟩
    · rcases List.mem_cons.mp ha with rfl | ha
      · omega
      · exact h2 a ha
    · rcases h3 with h3 | h3
      · by_cases h : x ≤ y
        · exact .inl (by rw [h3]; exact Nat.min_eq_left h)
        · exact .inr (by rw [h3, Nat.min_eq_right (by omega)]; simp)
      · exact .inr (by simp [h3])
def minFst : List Nat → Bool
  | [] => false
  | x :: xs => x == xs.foldl min x
theorem minFst_iff (x : Nat) (xs : List Nat) : minFst (x :: xs) = true ↔ ∀ a ∈ xs, x ≤ a := by
  obtain ⟨h1, h2, h3⟩ := foldl_min x xs
  rw [minFst, beq_iff_eq]
  constructor
  · intro e a ha; rw [e]; exact h2 a ha
  · intro h
    rcases h3 with h3 | h3
    · exact h3.symm
    · have := h _ h3; omega

/-! ## ring_of -/
def encO : Option (List Nat × List Nat) → D
  | none => .non
  | some p => .tup [encL p.1, encL p.2]
def ringAt (t : Tb) (R C k : Nat) : Option (List Nat × List Nat) := (arrs R k).findSome? fun rows => if minFst rows then (arrs C k).findSome? fun cols => if ringOn t rows cols then some (rows, cols) else none else none
def ringOf (t : Tb) (R C : Nat) : Option (List Nat × List Nat) := (List.range (min R C - 2)).findSome? fun s => ringAt t R C (3 + s)
def oD (o : Option (List Nat × List Nat)) : Option D := o.map fun p => .tup [encL p.1, encL p.2]
theorem find_map {α : Type} (xs : List α) (f : α → Option (List Nat × List Nat)) : xs.findSome? (fun x => oD (f x)) = oD (xs.findSome? f) := by
  induction xs with
  | nil => rfl
  | cons x xs ih =>
    rw [List.findSome?_cons, List.findSome?_cons]
    cases f x with
    | none => exact ih
    | some p => rfl
theorem goes_o {E : En} {b : Option Out} {o : Option (List Nat × List Nat)} {l : List Nat} {E0 : En} (h : b = match oD o with | some v => some (.rt v) | none => some (.nx E)) (he : wipeE E l = E0) : (oD o = none → ∃ E2, b = some (.nx E2) ∧ wipeE E2 l = E0) ∧ (∀ v, oD o = some v → b = some (.rt v)) := by
  refine ⟨fun z => ⟨E, by rw [h, z], he⟩, fun v z => by rw [h, z]⟩
section
variable {t : Tb} {R C : Nat}
theorem arrs_ok {n k : Nat} (hn : n ≤ 5) (hk : k ≤ 5) : ((arrs n k).map encL).length ≤ 100000 := by
  rw [List.length_map]
  have h1 := arrs_len n k
  have h2 : n ^ k ≤ 3125 := Nat.le_trans (Nat.pow_le_pow_left hn k) (Nat.le_trans (Nat.pow_le_pow_right (by omega) hk) (by decide))
  omega
theorem ring_of_eq (h : Sz t R C) (hR : 1 ≤ R) (hR5 : R ≤ 5) (hC : 1 ≤ C) (hC5 : C ≤ 5) : F_ring_of [encT t] = some (.ok (encO (ringOf t R C))) := by
  have ix0 : dIx (encT t) (.int 0) = some (encR (t.getD 0 [])) := h.ix (i := 0) (by omega)
  have lr0 := h.lenR (i := 0) (by omega)
  have d1 : ∀ (k : Nat) (rows cols : List Nat), rows ∈ arrs R k → cols ∈ arrs C k → k ≤ 5 → b_ring_of_1 [.im (encT t), .im (iN k), .im (encL rows), .im (encL cols)] = match oD (if ringOn t rows cols then some (rows, cols) else none) with
      | some v => some (.rt v)
      | none => some (.nx [.im (encT t), .im (iN k), .im (encL rows), .im (encL cols)]) := fun k rows cols hr hc hk => by
    obtain ⟨r1, r2, r3⟩ := (mem_arrs R k rows).mp hr
    obtain ⟨c1, c2, c3⟩ := (mem_arrs C k cols).mp hc
    have e := rings_on_eq h r3 c3 (by omega) (by omega)
    unfold b_ring_of_1
    simp only [aIfS, aTr, aCall, aCons, aVar, aNil, List.getElem?_cons_zero, List.getElem?_cons_succ, e, tru, aRet, aTup, aSkip]
    cases ringOn t rows cols <;> rfl
  have d2 : ∀ (k : Nat) (rows : List Nat), rows ∈ arrs R k → 1 ≤ k → k ≤ 5 → b_ring_of_2 [.im (encT t), .im (iN k), .im (encL rows), .no] = match oD (if minFst rows then (arrs C k).findSome? fun cols => if ringOn t rows cols then some (rows, cols) else none else none) with
      | some v => some (.rt v)
      | none => some (.nx [.im (encT t), .im (iN k), .im (encL rows), .no]) := fun k rows hr hk1 hk => by
    obtain ⟨r1, r2, r3⟩ := (mem_arrs R k rows).mp hr
    cases rows with
    | nil => rw [List.length_nil] at r1; omega
    | cons x xs =>
      have f0 : dIx (encL (x :: xs)) (.int 0) = some (iN x) := ix_encL (xs := x :: xs) (i := 0) (by simp)
      have m0 := min_encL x xs
      have ar : F_arrangements [iN C, iN k] = _ := arrangements_eq C k hC5 hk
      unfold b_ring_of_2
      simp only [aIfS, a2t, a2, aVarM, aC, aF, aCons, aNil, List.getElem?_cons_zero, List.getElem?_cons_succ, f0, m0, eq_iN]
      rw [show (x == xs.foldl min x) = minFst (x :: xs) from rfl]
      cases minFst (x :: xs) with
      | false => rfl
      | true =>
        have sub := forL_m (g := agN 3) (b := b_ring_of_1) (l := [3]) (E := [.im (encT t), .im (iN k), .im (encL (x :: xs)), .no]) encL (fun cols => oD (if ringOn t (x :: xs) cols then some (x :: xs, cols) else none)) (arrs C k) fun cols hc =>
          ⟨[.im (encT t), .im (iN k), .im (encL (x :: xs)), .im (encL cols)], rfl, goes_o (d1 k (x :: xs) cols hr hc hk) rfl⟩
        rw [find_map] at sub
        simp only [if_true, aFor, aiL, aCall, aCons, aF, a2, aVarM, aC, aNil, aVar, List.getElem?_cons_zero, List.getElem?_cons_succ, ix0, lr0, ar, if_pos (arrs_ok hC5 hk), wipeE, List.set]
        exact sub
  have d3 : ∀ k : Nat, 1 ≤ k → k ≤ 5 → b_ring_of_3 [.im (encT t), .im (iN k), .no, .no] = match oD (ringAt t R C k) with
      | some v => some (.rt v)
      | none => some (.nx [.im (encT t), .im (iN k), .no, .no]) := fun k hk1 hk => by
    have ar : F_arrangements [iN R, iN k] = _ := arrangements_eq R k hR5 hk
    have lt := h.lenT
    have sub := forL_m (g := agN 2) (b := b_ring_of_2) (l := [2, 3]) (E := [.im (encT t), .im (iN k), .no, .no]) encL (fun rows => oD (if minFst rows then (arrs C k).findSome? fun cols => if ringOn t rows cols then some (rows, cols) else none else none)) (arrs R k) fun rows hr =>
      ⟨[.im (encT t), .im (iN k), .im (encL rows), .no], rfl, goes_o (d2 k rows hr hk1 hk) rfl⟩
    rw [find_map] at sub
    unfold b_ring_of_3
    simp only [aFor, aiL, aCall, aCons, aF, aVarM, aNil, aVar, List.getElem?_cons_zero, List.getElem?_cons_succ, lt, ar, if_pos (arrs_ok hR5 hk), wipeE, List.set]
    exact sub
  have lt := h.lenT
  have mm : dMin2 [iN R, iN C] = some (iN (min R C)) := by
    show some (D.int (if ((C : Nat) : Int) < (R : Nat) then ((C : Nat) : Int) else (R : Nat))) = _
    unfold iN
    congr 2
    split <;> omega
  have rr : aiR2 (aCons (aC (.int 3)) (aCons (a2 dAdd (aF dMin2 (aCons (aF dLen (aCons (aVarM 0) aNil)) (aCons (aF dLen (aCons (a2 dIx (aVarM 0) (aC (.int 0))) aNil)) aNil))) (aC (.int 1))) aNil)) [.im (encT t), .no, .no, .no] = some ((List.range (min R C - 2)).map fun s => iN (3 + s)) := by
    simp only [aiR2, aCons, aC, a2, aF, aVarM, aNil, List.getElem?_cons_zero, lt, ix0, lr0, mm, one_iN, add_iN]
    have hb : (((min R C + 1 : Nat) : Nat) : Int) ≤ 10000 ∧ -10000 ≤ (((min R C + 1 : Nat) : Nat) : Int) ∧ (3 : Int) ≤ 10000 ∧ (-10000 : Int) ≤ 3 := by omega
    unfold iN
    dsimp only
    rw [if_pos hb]
    congr 1
    unfold rg
    have : (((min R C + 1 : Nat) : Int) - 3).toNat = min R C - 2 := by omega
    rw [this]
    apply List.map_congr_left
    intro s _
    congr 1
  have main := forL_m (g := agN 1) (b := b_ring_of_3) (l := [1, 2, 3]) (E := [.im (encT t), .no, .no, .no]) (fun s => iN (3 + s)) (fun s => oD (ringAt t R C (3 + s))) (List.range (min R C - 2)) fun s hs =>
    ⟨[.im (encT t), .im (iN (3 + s)), .no, .no], rfl, goes_o (d3 (3 + s) (by omega) (by have := List.mem_range.mp hs; omega)) rfl⟩
  rw [find_map] at main
  unfold F_ring_of a_ring_of
  simp only [runF, en0, List.getElem?_cons_zero, List.getElem?_cons_succ, List.set, List.map_cons, List.map_nil, List.replicate, List.cons_append, List.nil_append, List.length_cons, List.length_nil, if_true, aSeq, aFor, rr, wipeE, main]
  show ofOut _ = some (.ok (encO ((List.range (min R C - 2)).findSome? fun s => ringAt t R C (3 + s))))
  cases (List.range (min R C - 2)).findSome? fun s => ringAt t R C (3 + s) <;> rfl
end
end Lw
set_option Elab.async false
set_option linter.all false
set_option maxRecDepth 100000
set_option maxHeartbeats 4000000
set_option autoImplicit false
namespace Lw
open PySem L2 Rf

/-! ## rings, plainly -/
structure IsRing (t : Tb) (R C : Nat) (rows cols : List Nat) : Prop where
  three : 3 ≤ rows.length
  len : cols.length = rows.length
  ndr : rows.Nodup
  ndc : cols.Nodup
  ltr : ∀ a ∈ rows, a < R
  ltc : ∀ a ∈ cols, a < C
  on : ringOn t rows cols = true
def HasRing (t : Tb) (R C : Nat) : Prop := ∃ rows cols, IsRing t R C rows cols
theorem nodup_le : ∀ (n : Nat) (xs : List Nat), xs.Nodup → (∀ a ∈ xs, a < n) → xs.length ≤ n
  | 0, xs, _, h => by
    cases xs with
    | nil => exact Nat.le_refl _
    | cons x xs => exact absurd (h x (by simp)) (by omega)
  | n + 1, xs, hn, h => by
    by_cases hm : n ∈ xs
    · have := nodup_le n (xs.erase n) (hn.erase n) fun a ha => by
        have h1 := h a (List.mem_of_mem_erase ha)
        have h2 : a ≠ n := fun e => by
          subst e
          exact (List.Nodup.not_mem_erase hn) ha
        omega
      rw [List.length_erase_of_mem hm] at this
      omega
    · have := nodup_le n xs hn fun a ha => by
        have h1 := h a ha
        have h2 : a ≠ n := fun e => by subst e; exact hm ha
        omega
      omega
theorem ringOn_iff {t : Tb} {rows cols : List Nat} : ringOn t rows cols = true ↔ ∀ i, i < rows.length → ∀ j, j < cols.length → tb t (rows.getD i 0) (cols.getD j 0) = wantd rows.length i j := by
  unfold ringOn
  rw [List.all_eq_true]
  constructor
  · intro h i hi j hj
    have := List.all_eq_true.mp (h i (List.mem_range.mpr hi)) j (List.mem_range.mpr hj)
    exact eq_of_beq this
  · intro h i hi
    rw [List.all_eq_true]
    intro j hj
    rw [h i (List.mem_range.mp hi) j (List.mem_range.mp hj)]
    exact beq_self_eq_true _
theorem ringOf_some {t : Tb} {R C : Nat} {p : List Nat × List Nat} (h : ringOf t R C = some p) : IsRing t R C p.1 p.2 := by
  unfold ringOf at h
  obtain ⟨s, hs, h⟩ := List.exists_of_findSome?_eq_some h
  unfold ringAt at h
  obtain ⟨rows, hr, h⟩ := List.exists_of_findSome?_eq_some h
  split at h
  · obtain ⟨cols, hc, h⟩ := List.exists_of_findSome?_eq_some h
    split at h
    · rename_i on
      cases h
      obtain ⟨r1, r2, r3⟩ := (mem_arrs _ _ _).mp hr
      obtain ⟨c1, c2, c3⟩ := (mem_arrs _ _ _).mp hc
      exact ⟨by dsimp only; omega, by dsimp only; omega, r2, c2, r3, c3, on⟩
    · cases h
  · cases h
def rot (s : Nat) (xs : List Nat) : List Nat := xs.drop s ++ xs.take s
theorem rot_len (s : Nat) (xs : List Nat) : (rot s xs).length = xs.length := by
  unfold rot
  rw [List.length_append, List.length_drop, List.length_take]
  omega
theorem rot_perm (s : Nat) (xs : List Nat) : (rot s xs).Perm xs := by
  unfold rot
  have := List.perm_append_comm (l₁ := xs.drop s) (l₂ := xs.take s)
  rw [List.take_append_drop] at this
  exact this
theorem rot_get {s : Nat} {xs : List Nat} {i : Nat} (hs : s < xs.length) (hi : i < xs.length) : (rot s xs).getD i 0 = xs.getD ((i + s) % xs.length) 0 := by
  unfold rot
  rw [List.getD_eq_getElem?_getD, List.getD_eq_getElem?_getD, List.getElem?_append, List.length_drop]
  by_cases h : i < xs.length - s
  · rw [if_pos h, List.getElem?_drop, Nat.mod_eq_of_lt (by omega), Nat.add_comm]
  · rw [if_neg h, List.getElem?_take]
    have : (i + s) % xs.length = i - (xs.length - s) := by
      rw [Nat.mod_eq_sub_mod (by omega), Nat.mod_eq_of_lt (by omega)]
      omega
    rw [this, if_pos (by omega)]
theorem want_rot : ∀ k, k < 6 → ∀ s, s < k → ∀ i, i < k → ∀ j, j < k → wantd k ((i + s) % k) ((j + s) % k) = wantd k i j := by decide
theorem IsRing.rot {t : Tb} {R C : Nat} {rows cols : List Nat} (h : IsRing t R C rows cols) (h5 : rows.length ≤ 5) {s : Nat} (hs : s < rows.length) : IsRing t R C (rot s rows) (rot s cols) := by
  have p1 := rot_perm s rows
  have p2 := rot_perm s cols
  have hl := h.len
  refine ⟨by rw [rot_len]; exact h.three, by rw [rot_len, rot_len]; exact hl, p1.nodup_iff.mpr h.ndr, p2.nodup_iff.mpr h.ndc, fun a ha => h.ltr a (p1.mem_iff.mp ha), fun a ha => h.ltc a (p2.mem_iff.mp ha), ?_⟩
  rw [ringOn_iff]
  intro i hi j hj
  rw [rot_len] at hi hj ⊢
  rw [rot_get hs hi, rot_get (by rw [hl]; exact hs) hj, hl]
  have := ringOn_iff.mp h.on ((i + s) % rows.length) (Nat.mod_lt _ (by omega)) ((j + s) % rows.length) (by rw [hl]; exact Nat.mod_lt _ (by omega))
  rw [this]
  exact want_rot rows.length (by omega) s hs i hi j (by omega)
/-- the least first -/
theorem IsRing.first {t : Tb} {R C : Nat} {rows cols : List Nat} (h : IsRing t R C rows cols) (hR : R ≤ 5) : ∃ rows' cols', IsRing t R C rows' cols' ∧ rows'.length = rows.length ∧ minFst rows' = true := by
  have h5 : rows.length ≤ 5 := Nat.le_trans (nodup_le R rows h.ndr h.ltr) hR
  cases hrw : rows with
  | nil => have := h.three; rw [hrw] at this; cases this
  | cons x xs =>
    obtain ⟨m1, m2, m3⟩ := foldl_min x xs
    have hmem : xs.foldl min x ∈ rows := by
      rw [hrw]
      rcases m3 with m3 | m3
      · rw [m3]; simp
      · simp [m3]
    obtain ⟨s, hs, es⟩ := List.getElem_of_mem hmem
    refine ⟨Lw.rot s rows, Lw.rot s cols, h.rot h5 hs, by rw [rot_len, hrw], ?_⟩
    have hd : rows.drop s = rows[s] :: rows.drop (s + 1) := List.drop_eq_getElem_cons hs
    have hrot : Lw.rot s rows = rows[s] :: (rows.drop (s + 1) ++ rows.take s) := by
      unfold Lw.rot
      rw [hd]
      rfl
    rw [hrot, minFst_iff]
    intro a ha
    have ha2 : a ∈ rows := by
      rcases List.mem_append.mp ha with q | q
      · exact List.mem_of_mem_drop q
      · exact List.mem_of_mem_take q
    rw [es]
    rw [hrw] at ha2
    rcases List.mem_cons.mp ha2 with rfl | q
    · exact m1
    · exact m2 a q
theorem ringOf_none {t : Tb} {R C : Nat} (hR : R ≤ 5) (h : ringOf t R C = none) : ¬ HasRing t R C := by
  rintro ⟨rows0, cols0, h0⟩
  obtain ⟨rows, cols, hr, _, hm⟩ := h0.first hR
  have l1 := nodup_le R rows hr.ndr hr.ltr
  have l2 := nodup_le C cols hr.ndc hr.ltc
  have l3 := hr.three
  have l4 := hr.len
  unfold ringOf at h
  rw [List.findSome?_eq_none_iff] at h
  have h1 := h (rows.length - 3) (List.mem_range.mpr (by omega))
  rw [show 3 + (rows.length - 3) = rows.length by omega] at h1
  unfold ringAt at h1
  rw [List.findSome?_eq_none_iff] at h1
  have h2 := h1 rows ((mem_arrs _ _ _).mpr ⟨rfl, hr.ndr, hr.ltr⟩)
  rw [if_pos hm, List.findSome?_eq_none_iff] at h2
  have h3 := h2 cols ((mem_arrs _ _ _).mpr ⟨l4, hr.ndc, hr.ltc⟩)
  rw [if_pos hr.on] at h3
  cases h3
theorem ringOf_iff {t : Tb} {R C : Nat} (hR : R ≤ 5) : HasRing t R C ↔ (ringOf t R C).isSome = true := by
  cases z : ringOf t R C with
  | none => exact ⟨fun h => absurd h (ringOf_none hR z), fun h => (nomatch h)⟩
  | some p => exact ⟨fun _ => rfl, fun _ => ⟨p.1, p.2, ringOf_some z⟩⟩
end Lw
set_option Elab.async false
set_option linter.all false
set_option maxRecDepth 100000
set_option maxHeartbeats 4000000
set_option autoImplicit false
namespace Lw
open PySem L2 Rf

theorem forL_any {α : Type} {g : AG} {b : AS} {l : List Nat} {E : En} {v : D} (en : α → D) (p : α → Bool) (xs : List α) (h : ∀ x ∈ xs, ∃ E1, g (en x) E = some E1 ∧ (p x = false → ∃ E2, b E1 = some (.nx E2) ∧ wipeE E2 l = E) ∧ (p x = true → b E1 = some (.rt v))) :
    forL g b l (xs.map en) E = if xs.any p then some (.rt v) else some (.nx E) := by
  rw [forL_m en (fun x => if p x then some v else none) xs fun x hx => by
    obtain ⟨E1, e1, h1, h2⟩ := h x hx
    refine ⟨E1, e1, fun z => ?_, fun w z => ?_⟩
    · cases y : p x with
      | false => exact h1 y
      | true => rw [y] at z; cases z
    · cases y : p x with
      | false => rw [y] at z; cases z
      | true => rw [y] at z; cases z; exact h2 y]
  clear h
  induction xs with
  | nil => rfl
  | cons x xs ih =>
    rw [List.findSome?_cons, List.any_cons]
    cases p x with
    | true => rfl
    | false => exact ih
/-! ## lists of bits -/
theorem deqs_bI : ∀ (xs ys : List Bool), deqs (xs.map bI) (ys.map bI) = decide (xs = ys)
  | [], [] => by simp [deqs]
  | [], y :: ys => by simp [deqs]
  | x :: xs, [] => by simp [deqs]
  | x :: xs, y :: ys => by
    rw [List.map_cons, List.map_cons, deqs, deqs_bI xs ys]
    have : deq (bI x) (bI y) = decide (x = y) := by cases x <;> cases y <;> rfl
    rw [this, Bool.eq_iff_iff]
    simp
theorem ne_bits (xs ys : List Bool) : dNe (.lst (xs.map bI)) (.lst (ys.map bI)) = some (!decide (xs = ys)) := by
  unfold dNe
  have p1 : pl (.lst (xs.map bI)) 8 = true := by rw [pl]; exact plR xs 7
  have p2 : pl (.lst (ys.map bI)) 8 = true := by rw [pl]; exact plR ys 7
  rw [p1, p2]
  show some (!deq (.lst (xs.map bI)) (.lst (ys.map bI))) = _
  rw [deq, deqs_bI]
/-! ## _law_is_ring -/
section
variable {t : Tb} {R C : Nat} {rows cols : List Nat}
theorem map_eq_iff {k i : Nat} {r : Nat} (hl : cols.length = k) : (cols.map fun c => tb t r c) = (List.range k).map (wantd k i) ↔ ∀ j, j < k → tb t r (cols.getD j 0) = wantd k i j := by
  constructor
  · intro h j hj
    have h1 : (cols.map fun c => tb t r c)[j]? = ((List.range k).map (wantd k i))[j]? := by rw [h]
    rw [List.getElem?_map, List.getElem?_map, List.getElem?_eq_getElem (by omega : j < cols.length), List.getElem?_range hj] at h1
    rw [List.getD_eq_getElem?_getD, List.getElem?_eq_getElem (by omega : j < cols.length)]
    exact Option.some.inj h1
  · intro h
    apply List.ext_getElem?
    intro j
    by_cases hj : j < k
    · rw [List.getElem?_map, List.getElem?_map, List.getElem?_eq_getElem (by omega : j < cols.length), List.getElem?_range hj]
      have := h j hj
      rw [List.getD_eq_getElem?_getD, List.getElem?_eq_getElem (by omega : j < cols.length)] at this
      exact congrArg some this
    · rw [List.getElem?_eq_none (by simp; omega), List.getElem?_eq_none (by simp; omega)]
theorem law_is_ring_eq (h : Sz t R C) (hr : ∀ a ∈ rows, a < R) (hc : ∀ a ∈ cols, a < C) (hl : cols.length = rows.length) (lr : rows.length ≤ 1000) : F__law_is_ring [encT t, encL rows, encL cols] = some (.ok (.bl (ringOn t rows cols && decide (2 < rows.length)))) := by
  have hb : ((rows.length : Nat) : Int) ≤ 100000 ∧ -100000 ≤ ((rows.length : Nat) : Int) := by omega
  have hlc : (cols.map iN).length ≤ 100000 := by rw [List.length_map]; omega
  have body : ∀ i, i < rows.length → b__law_is_ring_1 [.im (encT t), .im (encL rows), .im (encL cols), .im (iN rows.length), .im (iN i), .no, .no, .no] =
      if (List.range cols.length).all fun j => tb t (rows.getD i 0) (cols.getD j 0) == wantd rows.length i j then some (.nx [.im (encT t), .im (encL rows), .im (encL cols), .im (iN rows.length), .im (iN i), .im (.lst ((cols.map fun c => tb t (rows.getD i 0) c).map bI)), .no, .no]) else some (.rt (.bl false)) := fun i hi => by
    have hk : 0 < rows.length := by omega
    have l1 : aLc (aiT (aVar 2)) (agN 6) aYes e__law_is_ring_1 [6] [.im (encT t), .im (encL rows), .im (encL cols), .im (iN rows.length), .im (iN i), .no, .no, .no] = some ((cols.map fun c => tb t (rows.getD i 0) c).map bI) := by
      unfold aLc
      have e1 : aiT (aVar 2) [.im (encT t), .im (encL rows), .im (encL cols), .im (iN rows.length), .im (iN i), .no, .no, .no] = some (cols.map iN) := by
        simp only [aiT, aVar, List.getElem?_cons_zero, List.getElem?_cons_succ, encL, if_pos hlc]
      rw [e1]
      dsimp only
      rw [compL_i cols iN (fun c => bI (tb t (rows.getD i 0) c)) fun c hcm => ?_, List.map_map]
      · rfl
      · refine ⟨[.im (encT t), .im (encL rows), .im (encL cols), .im (iN rows.length), .im (iN i), .no, .im (iN c), .no], rfl, ?_⟩
        unfold e__law_is_ring_1
        simp only [a2, aVarM, List.getElem?_cons_zero, List.getElem?_cons_succ, ix_encL hi, h.ix (all_lt hr hi), h.cell (all_lt hr hi) (hc c hcm)]
    have l2 : aLc (aiR1 (aCons (aVarM 3) aNil)) (agN 7) aYes e__law_is_ring_2 [7] [.im (encT t), .im (encL rows), .im (encL cols), .im (iN rows.length), .im (iN i), .im (.lst ((cols.map fun c => tb t (rows.getD i 0) c).map bI)), .no, .no] = some (((List.range rows.length).map (wantd rows.length i)).map bI) := by
      unfold aLc
      have e1 : aiR1 (aCons (aVarM 3) aNil) [.im (encT t), .im (encL rows), .im (encL cols), .im (iN rows.length), .im (iN i), .im (.lst ((cols.map fun c => tb t (rows.getD i 0) c).map bI)), .no, .no] = some ((List.range rows.length).map iN) := by
        simp only [aiR1, aCons, aVarM, aNil, List.getElem?_cons_zero, List.getElem?_cons_succ, iN, if_pos hb, Int.toNat_natCast]
        rw [← rg_iN]
      rw [e1]
      dsimp only
      rw [compL_i (List.range rows.length) iN (fun p => bI (wantd rows.length i p)) fun p hp => ?_, List.map_map]
      · rfl
      · refine ⟨[.im (encT t), .im (encL rows), .im (encL cols), .im (iN rows.length), .im (iN i), .im (.lst ((cols.map fun c => tb t (rows.getD i 0) c).map bI)), .no, .im (iN p)], rfl, ?_⟩
        unfold e__law_is_ring_2
        have w : vOr (a2 (bv dEq) (aVarM 7) (aVarM 4)) (a2 (bv dEq) (aVarM 7) (a2 dMod (a2 dAdd (aVarM 4) (aC (.int 1))) (aVarM 3))) [.im (encT t), .im (encL rows), .im (encL cols), .im (iN rows.length), .im (iN i), .im (.lst ((cols.map fun c => tb t (rows.getD i 0) c).map bI)), .no, .im (iN p)] = some (.bl (wantd rows.length i p)) := by
          simp only [vOr, a2, aVarM, List.getElem?_cons_zero, List.getElem?_cons_succ, bv, eq_iN, aC, one_iN, add_iN, mod_iN hk]
          unfold wantd
          cases p == i <;> rfl
        simp only [aF, aCons, w, aNil]
        cases wantd rows.length i p <;> rfl
    unfold b__law_is_ring_1
    simp only [aSeq, aSet, aLst, l1, List.set, aIfS, a2t, aVarM, List.getElem?_cons_zero, List.getElem?_cons_succ, l2, ne_bits, aRet, aC, aSkip]
    have hall : ((List.range cols.length).all fun j => tb t (rows.getD i 0) (cols.getD j 0) == wantd rows.length i j) = decide ((cols.map fun c => tb t (rows.getD i 0) c) = (List.range rows.length).map (wantd rows.length i)) := by
      rw [Bool.eq_iff_iff, List.all_eq_true, decide_eq_true_eq, map_eq_iff hl]
      constructor
      · intro q j hj
        exact eq_of_beq (q j (List.mem_range.mpr (by omega)))
      · intro q j hj
        rw [q j (by have := List.mem_range.mp hj; omega)]
        exact beq_self_eq_true _
    rw [hall]
    cases decide ((cols.map fun c => tb t (rows.getD i 0) c) = (List.range rows.length).map (wantd rows.length i)) <;> rfl
  have main := forL_p (g := agN 4) (b := b__law_is_ring_1) (l := [4, 5]) (E := [.im (encT t), .im (encL rows), .im (encL cols), .im (iN rows.length), .no, .no, .no, .no]) (r := .bl false) (fun i => (List.range cols.length).all fun j => tb t (rows.getD i 0) (cols.getD j 0) == wantd rows.length i j) ((List.range rows.length).map iN) fun i d hd => by
    rw [List.getElem?_map] at hd
    by_cases hi : i < rows.length
    · rw [List.getElem?_range hi] at hd
      cases hd
      refine ⟨[.im (encT t), .im (encL rows), .im (encL cols), .im (iN rows.length), .im (iN i), .no, .no, .no], rfl, fun z => ⟨_, by rw [body i hi, if_pos z], rfl⟩, fun z => by rw [body i hi, z]; rfl⟩
    · rw [List.getElem?_eq_none (by simp; omega)] at hd
      cases hd
  rw [List.length_map, List.length_range] at main
  have e1 : aiR1 (aCons (aVarM 3) aNil) [.im (encT t), .im (encL rows), .im (encL cols), .im (iN rows.length), .no, .no, .no, .no] = some ((List.range rows.length).map iN) := by
    simp only [aiR1, aCons, aVarM, aNil, List.getElem?_cons_zero, List.getElem?_cons_succ, iN, if_pos hb, Int.toNat_natCast]
    rw [← rg_iN]
  unfold F__law_is_ring a__law_is_ring
  simp only [runF, en0, List.getElem?_cons_zero, List.getElem?_cons_succ, List.set, List.map_cons, List.map_nil, List.replicate, List.cons_append, List.nil_append, List.length_cons, List.length_nil, if_true, aSeq, aSet, aF, aCons, aVarM, aNil, len_encL, aFor, e1, wipeE, main]
  unfold ringOn
  cases (List.range rows.length).all fun i => (List.range cols.length).all fun j => tb t (rows.getD i 0) (cols.getD j 0) == wantd rows.length i j with
  | false => rfl
  | true =>
    simp only [if_true, aRet, a2, aVarM, aC, bv, List.getElem?_cons_zero, List.getElem?_cons_succ, Bool.true_and]
    show ofOut (some (.rt (.bl (decide ((2 : Int) < (rows.length : Nat)))))) = _
    have : decide ((2 : Int) < (rows.length : Nat)) = decide (2 < rows.length) := by
      congr 1
      exact propext (by omega)
    rw [this]
    rfl
end
end Lw
set_option Elab.async false
set_option linter.all false
set_option maxRecDepth 100000
set_option maxHeartbeats 4000000
set_option autoImplicit false
namespace Lw
open PySem L2 Rf

/-! ## _law_grow -/
structure GSt (R C : Nat) (rows cols : List Nat) : Prop where
  ne : rows ≠ []
  len : cols.length = rows.length
  ndr : rows.Nodup
  ndc : cols.Nodup
  ltr : ∀ a ∈ rows, a < R
  ltc : ∀ a ∈ cols, a < C
def growC (t : Tb) (rows cols : List Nat) (c : Nat) : Bool := !decide (c ∈ cols) && (tb t (rows.getLastD 0) c && (rows.dropLast.filter fun r => tb t r c).isEmpty)
def growR (t : Tb) (rows : List Nat) (c r : Nat) : Bool := !decide (r ∈ rows) && tb t r c
def stepG (t : Tb) (R C : Nat) (G : List Nat → List Nat → Bool) (rows cols : List Nat) : Bool :=
  (decide (2 < rows.length) && ringOn t rows cols) || (List.range C).any fun c => growC t rows cols c && (List.range (R - (rows.getD 0 0 + 1))).any fun i => growR t rows c (rows.getD 0 0 + 1 + i) && G (rows ++ [rows.getD 0 0 + 1 + i]) (cols ++ [c])
theorem deqs_nilL : ∀ l : List D, deqs l [] = l.isEmpty := deqs_nil
theorem cut_last (xs : List D) (x : D) : cutD (xs ++ [x]) none (some (-1)) = xs := by
  unfold cutD HT.sIx
  simp
  have : (-1 + ((xs.length : Int) + 1)).toNat = xs.length := by omega
  rw [this]
  simp
theorem GSt.more {R C : Nat} {rows cols : List Nat} (h : GSt R C rows cols) {r c : Nat} (hr : r < R) (hc : c < C) (nr : r ∉ rows) (nc : c ∉ cols) : GSt R C (rows ++ [r]) (cols ++ [c]) := by
  have nd : ∀ {xs : List Nat} {x : Nat}, xs.Nodup → x ∉ xs → (xs ++ [x]).Nodup := fun hx hn => by
    rw [List.nodup_append]
    refine ⟨hx, by simp, fun a ha b hb e => ?_⟩
    rw [List.mem_singleton] at hb
    subst hb e
    exact hn ha
  refine ⟨by simp, by rw [List.length_append, List.length_append, h.len]; rfl, nd h.ndr nr, nd h.ndc nc, fun a ha => ?_, fun a ha => ?_⟩
  · rcases List.mem_append.mp ha with q | q
    · exact h.ltr a q
    · rw [List.mem_singleton.mp q]; exact hr
  · rcases List.mem_append.mp ha with q | q
    · exact h.ltc a q
    · rw [List.mem_singleton.mp q]; exact hc
section
variable {t : Tb} {R C : Nat}
theorem grow_step (h : Sz t R C) (hR5 : R ≤ 5) (hC5 : C ≤ 5) (F : Fn) (G : List Nat → List Nat → Bool) {rows cols : List Nat} (g : GSt R C rows cols)
    (hF : ∀ r c, GSt R C (rows ++ [r]) (cols ++ [c]) → F [encT t, encL (rows ++ [r]), encL (cols ++ [c])] = some (.ok (.bl (G (rows ++ [r]) (cols ++ [c]))))) : runF 5 (a__law_grow F) [encT t, encL rows, encL cols] = some (.ok (.bl (stepG t R C G rows cols))) := by
  obtain ⟨ini, z, erow⟩ : ∃ ini z, rows = ini ++ [z] := ⟨rows.dropLast, rows.getLast g.ne, (List.dropLast_concat_getLast g.ne).symm⟩
  have hlen : rows.length ≤ 5 := Nat.le_trans (nodup_le R rows g.ndr g.ltr) hR5
  have hlc : cols.length ≤ 5 := by rw [g.len]; exact hlen
  have hz : z < R := g.ltr z (by rw [erow]; simp)
  have hl0 : 0 < rows.length := List.length_pos_iff.mpr g.ne
  have elast : rows.getLastD 0 = z := by rw [erow]; simp
  have edrop : rows.dropLast = ini := by rw [erow]; simp
  have x0 : dIx (encL rows) (.int 0) = some (iN (rows.getD 0 0)) := ix_encL (i := 0) hl0
  have h0 : rows.getD 0 0 < R := all_lt g.ltr hl0
  have xl : dIx (encL rows) (.int (-1)) = some (iN z) := by
    show atI (rows.map iN) (-1) = _
    rw [erow, List.map_append]
    exact atI_last _ _
  have ez := h.ix hz
  have isr := law_is_ring_eq h g.ltr g.ltc g.len (by omega)
  have ltab := h.lenT
  have lz := h.lenR hz
  let E0 : En := [.im (encT t), .im (encL rows), .im (encL cols), .im (iN rows.length), .im (encR (t.getD z [])), .no, .no, .no]
  have b1 : ∀ (c r : Nat) (tk : Sl), c < C → c ∉ cols → r < R → b__law_grow_1 F [.im (encT t), .im (encL rows), .im (encL cols), .im (iN rows.length), .im (encR (t.getD z [])), .im (iN c), .im (iN r), tk] =
      if growR t rows c r && G (rows ++ [r]) (cols ++ [c]) then some (.rt (.bl true)) else some (.nx [.im (encT t), .im (encL rows), .im (encL cols), .im (iN rows.length), .im (encR (t.getD z [])), .im (iN c), .im (iN r), tk]) := fun c r tk hc hnc hr => by
    have er := h.ix hr
    have ec := h.cell hr hc
    unfold b__law_grow_1 growR
    simp only [aIfS, tAnd', a2t, aVarM, a2, aC, List.getElem?_cons_zero, List.getElem?_cons_succ, nin_encL, er, ec, eq_bI]
    by_cases hm : r ∈ rows
    · rw [decide_eq_true hm]
      rfl
    · rw [decide_eq_false hm]
      cases htb : tb t r c with
      | false => rfl
      | true =>
        have f1 := hF r c (g.more hr hc hm hnc)
        have s1 : (rows.map iN).length + [iN r].length ≤ 100000 := by rw [List.length_map]; simp; omega
        have s2 : (cols.map iN).length + [iN c].length ≤ 100000 := by rw [List.length_map]; simp; omega
        have m1 : D.tup (rows.map iN ++ [iN r]) = encL (rows ++ [r]) := by unfold encL; rw [List.map_append]; rfl
        have m2 : D.tup (cols.map iN ++ [iN c]) = encL (cols ++ [c]) := by unfold encL; rw [List.map_append]; rfl
        have a1 : dAdd (encL rows) (.tup [iN r]) = some (encL (rows ++ [r])) := by
          show (if (rows.map iN).length + [iN r].length ≤ 100000 then some (D.tup (rows.map iN ++ [iN r])) else none) = _
          rw [if_pos s1, m1]
        have a3 : dAdd (encL cols) (.tup [iN c]) = some (encL (cols ++ [c])) := by
          show (if (cols.map iN).length + [iN c].length ≤ 100000 then some (D.tup (cols.map iN ++ [iN c])) else none) = _
          rw [if_pos s2, m2]
        simp only [Bool.not_false, Bool.true_and, aTr, aCall, aCons, aVar, a2, aVarM, aTup, aNil, List.getElem?_cons_zero, List.getElem?_cons_succ, a1, a3, f1, tru, aRet, aC, aSkip]
        cases G (rows ++ [r]) (cols ++ [c]) <;> rfl
  have b2 : ∀ c, c < C → b__law_grow_2 F [.im (encT t), .im (encL rows), .im (encL cols), .im (iN rows.length), .im (encR (t.getD z [])), .im (iN c), .no, .no] =
      if growC t rows cols c && (List.range (R - (rows.getD 0 0 + 1))).any fun i => growR t rows c (rows.getD 0 0 + 1 + i) && G (rows ++ [rows.getD 0 0 + 1 + i]) (cols ++ [c]) then some (.rt (.bl true)) else
        some (.nx [.im (encT t), .im (encL rows), .im (encL cols), .im (iN rows.length), .im (encR (t.getD z [])), .im (iN c), .no, .im (.lst ((ini.filter fun r => tb t r c).map iN))]) := fun c hc => by
    have lc : aLc (aiT (aSl dSl (aVarM 1) aNoP (aPart (aNeg (aC (.int 1)))))) (agN 6) (t__law_grow_1 F) (e__law_grow_1 F) [6] [.im (encT t), .im (encL rows), .im (encL cols), .im (iN rows.length), .im (encR (t.getD z [])), .im (iN c), .no, .no] = some ((ini.filter fun r => tb t r c).map iN) := by
      have li : (ini.map iN).length ≤ 100000 := by
        rw [List.length_map]
        have : rows.length = ini.length + 1 := by rw [erow]; simp
        omega
      have e1 : aiT (aSl dSl (aVarM 1) aNoP (aPart (aNeg (aC (.int 1))))) [.im (encT t), .im (encL rows), .im (encL cols), .im (iN rows.length), .im (encR (t.getD z [])), .im (iN c), .no, .no] = some (ini.map iN) := by
        have cu : cutD (rows.map iN) none (some (-1)) = ini.map iN := by
          rw [erow, List.map_append]
          exact cut_last _ _
        simp only [aiT, aSl, aVarM, aNoP, aPart, aNeg, aC, List.getElem?_cons_zero, List.getElem?_cons_succ, encL, dSl, cu, if_pos li]
      unfold aLc
      rw [e1]
      dsimp only
      refine compL_f ini iN (fun r => tb t r c) iN fun r hr => ⟨[.im (encT t), .im (encL rows), .im (encL cols), .im (iN rows.length), .im (encR (t.getD z [])), .im (iN c), .im (iN r), .no], rfl, ?_, fun _ => rfl⟩
      have hrR : r < R := g.ltr r (by rw [erow]; simp [hr])
      unfold t__law_grow_1
      simp only [a2t, a2, aVarM, aC, List.getElem?_cons_zero, List.getElem?_cons_succ, h.ix hrR, h.cell hrR hc, eq_bI]
    have tk : dEq (.lst ((ini.filter fun r => tb t r c).map iN)) (.lst []) = some ((ini.filter fun r => tb t r c).isEmpty) := by
      unfold dEq
      have p1 : pl (.lst ((ini.filter fun r => tb t r c).map iN)) 8 = true := by rw [pl]; exact pls_iN _ 7
      rw [p1]
      show some (deq (.lst ((ini.filter fun r => tb t r c).map iN)) (.lst [])) = _
      rw [deq, deqs_nil]
      cases ini.filter fun r => tb t r c <;> rfl
    have cz := h.cell hz hc
    have test : (tAnd' (a2t dNin (aVarM 5) (aVarM 2)) (tAnd' (a2t dEq (a2 dIx (aVarM 4) (aVarM 5)) (aC (.int 1))) (a2t dEq (aVarM 7) (aLst aNil)))) [.im (encT t), .im (encL rows), .im (encL cols), .im (iN rows.length), .im (encR (t.getD z [])), .im (iN c), .no, .im (.lst ((ini.filter fun r => tb t r c).map iN))] = some (growC t rows cols c) := by
      unfold growC
      rw [elast, edrop]
      simp only [tAnd', a2t, aVarM, a2, aC, aLst, aNil, List.getElem?_cons_zero, List.getElem?_cons_succ, nin_encL, cz, eq_bI, tk]
      cases decide (c ∈ cols) <;> cases tb t z c <;> rfl
    unfold b__law_grow_2
    simp only [aSeq, aSet, aLst, lc, List.set, aIfS]
    rw [test]
    cases hgc : growC t rows cols c with
    | false => rfl
    | true =>
      have hnc : c ∉ cols := by
        unfold growC at hgc
        rw [Bool.and_eq_true] at hgc
        simpa using hgc.1
      have rr : aiR2 (aCons (a2 dAdd (a2 dIx (aVarM 1) (aC (.int 0))) (aC (.int 1))) (aCons (aF dLen (aCons (aVarM 0) aNil)) aNil)) [.im (encT t), .im (encL rows), .im (encL cols), .im (iN rows.length), .im (encR (t.getD z [])), .im (iN c), .no, .im (.lst ((ini.filter fun r => tb t r c).map iN))] =
          some ((List.range (R - (rows.getD 0 0 + 1))).map fun i => iN (rows.getD 0 0 + 1 + i)) := by
        simp only [aiR2, aCons, a2, aVarM, aC, aF, aNil, List.getElem?_cons_zero, List.getElem?_cons_succ, x0, one_iN, add_iN, ltab]
        unfold iN
        dsimp only
        have hb : ((R : Nat) : Int) ≤ 10000 ∧ -10000 ≤ ((R : Nat) : Int) ∧ ((rows.getD 0 0 + 1 : Nat) : Int) ≤ 10000 ∧ (-10000 : Int) ≤ ((rows.getD 0 0 + 1 : Nat) : Int) := by omega
        rw [if_pos hb]
        congr 1
        unfold rg
        have : (((R : Nat) : Int) - ((rows.getD 0 0 + 1 : Nat) : Int)).toNat = R - (rows.getD 0 0 + 1) := by omega
        rw [this]
        apply List.map_congr_left
        intro i _
        congr 1
      have inner := forL_any (g := agN 6) (b := b__law_grow_1 F) (l := [6]) (v := .bl true) (E := [.im (encT t), .im (encL rows), .im (encL cols), .im (iN rows.length), .im (encR (t.getD z [])), .im (iN c), .no, .im (.lst ((ini.filter fun r => tb t r c).map iN))]) (fun i => iN (rows.getD 0 0 + 1 + i))
        (fun i => growR t rows c (rows.getD 0 0 + 1 + i) && G (rows ++ [rows.getD 0 0 + 1 + i]) (cols ++ [c])) (List.range (R - (rows.getD 0 0 + 1))) fun i hi => by
          have hi' := List.mem_range.mp hi
          have hb1 := b1 c (rows.getD 0 0 + 1 + i) (.im (.lst ((ini.filter fun r => tb t r c).map iN))) hc hnc (by omega)
          refine ⟨_, rfl, fun y => ⟨[.im (encT t), .im (encL rows), .im (encL cols), .im (iN rows.length), .im (encR (t.getD z [])), .im (iN c), .im (iN (rows.getD 0 0 + 1 + i)), .im (.lst ((ini.filter fun r => tb t r c).map iN))], ?_, rfl⟩, fun y => ?_⟩
          · refine Eq.trans hb1 ?_
            rw [y]
            rfl
          · refine Eq.trans hb1 ?_
            rw [y]
            rfl
      simp only [aFor, rr, wipeE, List.set]
      rw [inner]
      rfl
  have main := forL_any (g := agN 5) (b := b__law_grow_2 F) (l := [5, 7, 6]) (v := .bl true) (E := E0) iN (fun c => growC t rows cols c && (List.range (R - (rows.getD 0 0 + 1))).any fun i => growR t rows c (rows.getD 0 0 + 1 + i) && G (rows ++ [rows.getD 0 0 + 1 + i]) (cols ++ [c])) (List.range C) fun c hc => by
    have hb2 := b2 c (List.mem_range.mp hc)
    refine ⟨[.im (encT t), .im (encL rows), .im (encL cols), .im (iN rows.length), .im (encR (t.getD z [])), .im (iN c), .no, .no], rfl, fun y => ⟨[.im (encT t), .im (encL rows), .im (encL cols), .im (iN rows.length), .im (encR (t.getD z [])), .im (iN c), .no, .im (.lst ((ini.filter fun r => tb t r c).map iN))], ?_, rfl⟩, fun y => ?_⟩
    · rw [hb2, y]; rfl
    · rw [hb2, y]; rfl
  have rC : aiR1 (aCons (aF dLen (aCons (aVarM 4) aNil)) aNil) E0 = some ((List.range C).map iN) := by
    have hb : ((C : Nat) : Int) ≤ 100000 ∧ -100000 ≤ ((C : Nat) : Int) := by omega
    simp only [E0, aiR1, aCons, aF, aVarM, aNil, List.getElem?_cons_zero, List.getElem?_cons_succ, lz]
    unfold iN
    dsimp only
    rw [if_pos hb, Int.toNat_natCast]
    exact congrArg some (rg_iN C)
  have gt2 : dGt (iN rows.length) (.int 2) = some (decide (2 < rows.length)) := by
    show some (decide ((2 : Int) < (rows.length : Nat))) = _
    congr 2
    exact propext (by omega)
  have tst : tAnd' (a2t dGt (aVarM 3) (aC (.int 2))) (aTr (aCall F__law_is_ring (aCons (aVar 0) (aCons (aVar 1) (aCons (aVar 2) aNil))))) E0 = some (decide (2 < rows.length) && ringOn t rows cols) := by
    simp only [E0, tAnd', a2t, aVarM, aC, List.getElem?_cons_zero, List.getElem?_cons_succ, gt2, aTr, aCall, aCons, aVar, aNil, isr, tru]
    cases decide (2 < rows.length) <;> cases ringOn t rows cols <;> rfl
  unfold a__law_grow
  simp only [runF, en0, List.getElem?_cons_zero, List.getElem?_cons_succ, List.set, List.map_cons, List.map_nil, List.replicate, List.cons_append, List.nil_append, List.length_cons, List.length_nil, if_true, aSeq, aSet, aF, aCons, aVarM, aNil, len_encL, a2, aNeg, aC, xl, ez]
  rw [show ([Sl.im (encT t), Sl.im (encL rows), Sl.im (encL cols), Sl.im (iN rows.length), Sl.im (encR (t.getD z [])), Sl.no, Sl.no, Sl.no] : En) = E0 from rfl]
  simp only [aIfS]
  rw [tst]
  unfold stepG
  cases decide (2 < rows.length) && ringOn t rows cols with
  | true => rfl
  | false =>
    simp only [aSkip, aFor, rC]
    rw [show wipeE E0 [5, 7, 6] = E0 from rfl, main, Bool.false_or]
    cases (List.range C).any fun c => growC t rows cols c && (List.range (R - (rows.getD 0 0 + 1))).any fun i => growR t rows c (rows.getD 0 0 + 1 + i) && G (rows ++ [rows.getD 0 0 + 1 + i]) (cols ++ [c]) <;> rfl
end
end Lw
set_option Elab.async false
set_option linter.all false
set_option maxRecDepth 100000
set_option maxHeartbeats 4000000
set_option autoImplicit false
namespace Lw
open PySem L2 Rf

def growB (t : Tb) (R C : Nat) : Nat → List Nat → List Nat → Bool
  | 0 => fun _ _ => false
  | n + 1 => stepG t R C (growB t R C n)
section
variable {t : Tb} {R C : Nat}
theorem grow_it (h : Sz t R C) (hR5 : R ≤ 5) (hC5 : C ≤ 5) : ∀ (n : Nat) (rows cols : List Nat), GSt R C rows cols → R + 1 ≤ n + rows.length → itF (fun F => runF 5 (a__law_grow F)) n [encT t, encL rows, encL cols] = some (.ok (.bl (growB t R C n rows cols)))
  | 0, rows, cols, g, hn => by
    have := nodup_le R rows g.ndr g.ltr
    omega
  | n + 1, rows, cols, g, hn => by
    show runF 5 (a__law_grow (itF (fun F => runF 5 (a__law_grow F)) n)) [encT t, encL rows, encL cols] = _
    refine grow_step h hR5 hC5 _ (growB t R C n) g fun r c g' => ?_
    exact grow_it h hR5 hC5 n _ _ g' (by rw [List.length_append]; simp; omega)
theorem grow_sound : ∀ (n : Nat) (rows cols : List Nat), GSt R C rows cols → growB t R C n rows cols = true → HasRing t R C
  | 0, _, _, _, h => by cases h
  | n + 1, rows, cols, g, h => by
    unfold growB stepG at h
    rw [Bool.or_eq_true] at h
    rcases h with h | h
    · rw [Bool.and_eq_true, decide_eq_true_eq] at h
      exact ⟨rows, cols, h.1, g.len, g.ndr, g.ndc, g.ltr, g.ltc, h.2⟩
    · obtain ⟨c, hc, h1⟩ := List.any_eq_true.mp h
      rw [Bool.and_eq_true] at h1
      obtain ⟨i, hi, h2⟩ := List.any_eq_true.mp h1.2
      rw [Bool.and_eq_true] at h2
      have hc' := List.mem_range.mp hc
      have hi' := List.mem_range.mp hi
      have n1 : c ∉ cols := by
        have := h1.1
        unfold growC at this
        rw [Bool.and_eq_true] at this
        simpa using this.1
      have n2 : rows.getD 0 0 + 1 + i ∉ rows := by
        have := h2.1
        unfold growR at this
        rw [Bool.and_eq_true] at this
        simpa using this.1
      exact grow_sound n _ _ (g.more (by omega) hc' n2 n1) h2.2
theorem take_get {xs : List Nat} {m : Nat} (hm : m < xs.length) : xs.take (m + 1) = xs.take m ++ [xs.getD m 0] := by
  rw [List.take_add_one, List.getElem?_eq_getElem hm, List.getD_eq_getElem?_getD, List.getElem?_eq_getElem hm]
  rfl
theorem not_take {xs : List Nat} (nd : xs.Nodup) {m : Nat} (hm : m < xs.length) : xs.getD m 0 ∉ xs.take m := by
  have h1 : (xs.take (m + 1)).Nodup := (List.take_sublist _ _).nodup nd
  rw [take_get hm, List.nodup_append] at h1
  intro hq
  exact h1.2.2 _ hq _ (List.mem_singleton.mpr rfl) rfl
theorem want_no : ∀ k, k < 6 → ∀ m, m < k → ∀ i, i < m → i + 1 < m → wantd k i m = false := by decide
theorem want_yes : ∀ k, k < 6 → ∀ m, m < k → 1 ≤ m → wantd k (m - 1) m = true ∧ wantd k m m = true := by decide
theorem want_zero : ∀ k, k < 6 → 0 < k → wantd k 0 0 = true := by decide
/-- along a ring whose least row is the first -/
theorem grow_ring (h5 : R ≤ 5) {rows cols : List Nat} (hr : IsRing t R C rows cols) (hm : minFst rows = true) : ∀ (n m : Nat), 1 ≤ m → m ≤ rows.length → rows.length < n + m → growB t R C n (rows.take m) (cols.take m) = true
  | 0, m, h1, h2, h3 => by omega
  | n + 1, m, h1, h2, h3 => by
    have hk : rows.length ≤ 5 := Nat.le_trans (nodup_le R rows hr.ndr hr.ltr) h5
    have hl := hr.len
    have h3' := hr.three
    unfold growB stepG
    rw [Bool.or_eq_true]
    by_cases hmk : m = rows.length
    · left
      subst hmk
      rw [List.take_length, ← hl, List.take_length, hr.on, hl, Bool.and_true, decide_eq_true_eq]
      omega
    · right
      have hm1 : m < rows.length := by omega
      have hon := ringOn_iff.mp hr.on
      have hget : ∀ i, i < rows.length → ∀ xs : List Nat, xs.length = rows.length → ∀ m, i < m → (xs.take m).getD i 0 = xs.getD i 0 := fun i hi xs hx m him => by
        rw [List.getD_eq_getElem?_getD, List.getD_eq_getElem?_getD, List.getElem?_take, if_pos him]
      rw [List.any_eq_true]
      refine ⟨cols.getD m 0, List.mem_range.mpr (all_lt hr.ltc (by omega)), ?_⟩
      rw [Bool.and_eq_true]
      have elast : (rows.take m).getLastD 0 = rows.getD (m - 1) 0 := by
        have : rows.take m = rows.take (m - 1) ++ [rows.getD (m - 1) 0] := by
          rw [← take_get (by omega), show m - 1 + 1 = m by omega]
        rw [this]
        simp
      have edrop : (rows.take m).dropLast = rows.take (m - 1) := by
        have : rows.take m = rows.take (m - 1) ++ [rows.getD (m - 1) 0] := by
          rw [← take_get (by omega), show m - 1 + 1 = m by omega]
        rw [this]
        simp
      have hy := want_yes rows.length (by omega) m hm1 h1
      refine ⟨?_, ?_⟩
      · unfold growC
        rw [elast, edrop]
        have t1 := hon (m - 1) (by omega) m (by omega)
        rw [t1, hy.1]
        have t2 : (rows.take (m - 1)).filter (fun r => tb t r (cols.getD m 0)) = [] := by
          rw [List.filter_eq_nil_iff]
          intro r hrm
          obtain ⟨i, hi, e⟩ := List.getElem_of_mem hrm
          rw [List.length_take] at hi
          have hi2 : i < m - 1 := by omega
          have er : r = rows.getD i 0 := by
            rw [← e, List.getElem_take, List.getD_eq_getElem?_getD, List.getElem?_eq_getElem (by omega)]
            rfl
          rw [er, hon i (by omega) m (by omega), want_no rows.length (by omega) m hm1 i (by omega) (by omega)]
          decide
        rw [t2]
        have : cols.getD m 0 ∉ cols.take m := not_take hr.ndc (by omega)
        rw [decide_eq_false this]
        rfl
      · have e0 : (rows.take m).getD 0 0 = rows.getD 0 0 := hget 0 (by omega) rows rfl m (by omega)
        have hgt : rows.getD 0 0 < rows.getD m 0 := by
          cases hrw : rows with
          | nil => rw [hrw] at h3'; cases h3'
          | cons x xs =>
            rw [hrw] at hm
            have := (minFst_iff x xs).mp hm
            have hmx : (x :: xs).getD m 0 ∈ xs := by
              rw [hrw] at hm1
              rw [List.getD_eq_getElem?_getD, List.getElem?_eq_getElem hm1]
              obtain ⟨m', rfl⟩ : ∃ m', m = m' + 1 := ⟨m - 1, by omega⟩
              show (x :: xs)[m' + 1] ∈ xs
              rw [List.getElem_cons_succ]
              exact List.getElem_mem _
            have h7 := this _ hmx
            have hnd := hr.ndr
            rw [hrw, List.nodup_cons] at hnd
            have h8 : x ≠ (x :: xs).getD m 0 := fun e => hnd.1 (e ▸ hmx)
            show x < _
            omega
        have hRm : rows.getD m 0 < R := all_lt hr.ltr hm1
        rw [e0, List.any_eq_true]
        refine ⟨rows.getD m 0 - (rows.getD 0 0 + 1), List.mem_range.mpr (by omega), ?_⟩
        rw [show rows.getD 0 0 + 1 + (rows.getD m 0 - (rows.getD 0 0 + 1)) = rows.getD m 0 by omega, Bool.and_eq_true]
        refine ⟨?_, ?_⟩
        · unfold growR
          rw [hon m hm1 m (by omega), hy.2, decide_eq_false (not_take hr.ndr hm1)]
          rfl
        · rw [← take_get hm1, ← take_get (by omega : m < cols.length)]
          exact grow_ring h5 hr hm n (m + 1) (by omega) (by omega) (by omega)
theorem st1 {r c : Nat} (hr : r < R) (hc : c < C) : GSt R C [r] [c] := ⟨by simp, rfl, by simp, by simp, fun a ha => by rw [List.mem_singleton.mp ha]; exact hr, fun a ha => by rw [List.mem_singleton.mp ha]; exact hc⟩
def ringedB (t : Tb) (R C : Nat) : Bool := (List.range R).any fun r => (List.range C).any fun c => tb t r c && growB t R C 7 [r] [c]
theorem ringedB_iff (h5 : R ≤ 5) : ringedB t R C = true ↔ HasRing t R C := by
  unfold ringedB
  rw [List.any_eq_true]
  constructor
  · rintro ⟨r, hr, h⟩
    obtain ⟨c, hc, h⟩ := List.any_eq_true.mp h
    rw [Bool.and_eq_true] at h
    exact grow_sound 7 _ _ (st1 (List.mem_range.mp hr) (List.mem_range.mp hc)) h.2
  · rintro ⟨rows0, cols0, h0⟩
    obtain ⟨rows, cols, hr, _, hm⟩ := h0.first h5
    have hk : rows.length ≤ 5 := Nat.le_trans (nodup_le R rows hr.ndr hr.ltr) h5
    have h3 := hr.three
    have hl := hr.len
    refine ⟨rows.getD 0 0, List.mem_range.mpr (all_lt hr.ltr (by omega)), ?_⟩
    rw [List.any_eq_true]
    refine ⟨cols.getD 0 0, List.mem_range.mpr (all_lt hr.ltc (by omega)), ?_⟩
    rw [Bool.and_eq_true]
    refine ⟨?_, ?_⟩
    · rw [ringOn_iff.mp hr.on 0 (by omega) 0 (by omega)]
      exact want_zero rows.length (by omega) (by omega)
    · have := grow_ring h5 hr hm 7 1 (Nat.le_refl _) (by omega) (by omega)
      rw [show (1 : Nat) = 0 + 1 from rfl, take_get (by omega), take_get (by omega)] at this
      exact this
theorem ringed_eq (h : Sz t R C) (hR : 1 ≤ R) (hR5 : R ≤ 5) (hC5 : C ≤ 5) : F__law_ringed [encT t] = some (.ok (.bl (ringedB t R C))) := by
  have b1 : ∀ r c, r < R → c < C → b__law_ringed_1 [.im (encT t), .im (iN r), .im (iN c)] = if tb t r c && growB t R C 7 [r] [c] then some (.rt (.bl true)) else some (.nx [.im (encT t), .im (iN r), .im (iN c)]) := fun r c hr hc => by
    have g : F__law_grow [encT t, encL [r], encL [c]] = some (.ok (.bl (growB t R C 7 [r] [c]))) := grow_it h hR5 hC5 7 [r] [c] (st1 hr hc) (by simp; omega)
    have g' : F__law_grow [encT t, .tup [iN r], .tup [iN c]] = some (.ok (.bl (growB t R C 7 [r] [c]))) := g
    unfold b__law_ringed_1
    simp only [aIfS, tAnd', a2t, a2, aVarM, aC, List.getElem?_cons_zero, List.getElem?_cons_succ, h.ix hr, h.cell hr hc, eq_bI, aTr, aCall, aCons, aVar, aTup, aNil, g', tru, aRet, aSkip]
    cases tb t r c <;> cases growB t R C 7 [r] [c] <;> rfl
  have rC : ∀ r : Nat, aiR1 (aCons (aF dLen (aCons (a2 dIx (aVarM 0) (aC (.int 0))) aNil)) aNil) [.im (encT t), .im (iN r), .no] = some ((List.range C).map iN) := fun r => by
    have hb : ((C : Nat) : Int) ≤ 100000 ∧ -100000 ≤ ((C : Nat) : Int) := by omega
    have ix0 : dIx (encT t) (.int 0) = some (encR (t.getD 0 [])) := h.ix (i := 0) (by omega)
    simp only [aiR1, aCons, aF, a2, aVarM, aC, aNil, List.getElem?_cons_zero, List.getElem?_cons_succ, ix0, h.lenR (i := 0) (by omega)]
    unfold iN
    dsimp only
    rw [if_pos hb, Int.toNat_natCast]
    exact congrArg some (rg_iN C)
  have rR : aiR1 (aCons (aF dLen (aCons (aVarM 0) aNil)) aNil) [.im (encT t), .no, .no] = some ((List.range R).map iN) := by
    have hb : ((R : Nat) : Int) ≤ 100000 ∧ -100000 ≤ ((R : Nat) : Int) := by omega
    simp only [aiR1, aCons, aF, aVarM, aNil, List.getElem?_cons_zero, h.lenT]
    unfold iN
    dsimp only
    rw [if_pos hb, Int.toNat_natCast]
    exact congrArg some (rg_iN R)
  have b2 : ∀ r, r < R → b__law_ringed_2 [.im (encT t), .im (iN r), .no] = if (List.range C).any fun c => tb t r c && growB t R C 7 [r] [c] then some (.rt (.bl true)) else some (.nx [.im (encT t), .im (iN r), .no]) := fun r hr => by
    have sub := forL_any (g := agN 2) (b := b__law_ringed_1) (l := [2]) (v := .bl true) (E := [.im (encT t), .im (iN r), .no]) iN (fun c => tb t r c && growB t R C 7 [r] [c]) (List.range C) fun c hc => by
      have hb := b1 r c hr (List.mem_range.mp hc)
      refine ⟨[.im (encT t), .im (iN r), .im (iN c)], rfl, fun y => ⟨_, by rw [hb, y]; rfl, rfl⟩, fun y => by rw [hb, y]; rfl⟩
    unfold b__law_ringed_2 aFor
    rw [rC r]
    exact sub
  have main := forL_any (g := agN 1) (b := b__law_ringed_2) (l := [1, 2]) (v := .bl true) (E := [.im (encT t), .no, .no]) iN (fun r => (List.range C).any fun c => tb t r c && growB t R C 7 [r] [c]) (List.range R) fun r hr => by
    have hb := b2 r (List.mem_range.mp hr)
    refine ⟨[.im (encT t), .im (iN r), .no], rfl, fun y => ⟨_, by rw [hb, y]; rfl, rfl⟩, fun y => by rw [hb, y]; rfl⟩
  unfold F__law_ringed a__law_ringed
  simp only [runF, en0, List.getElem?_cons_zero, List.getElem?_cons_succ, List.set, List.map_cons, List.map_nil, List.replicate, List.cons_append, List.nil_append, List.length_cons, List.length_nil, if_true, aSeq, aFor, rR, wipeE, main]
  unfold ringedB
  cases (List.range R).any fun r => (List.range C).any fun c => tb t r c && growB t R C 7 [r] [c] <;> rfl
end
end Lw
set_option Elab.async false
set_option linter.all false
set_option maxRecDepth 100000
set_option maxHeartbeats 4000000
set_option autoImplicit false
namespace Lw
open PySem L2 Rf

/-! ## weights -/
def wt : List Nat → Nat
  | [] => 0
  | x :: xs => x + 2 * wt xs
def ins (x : Nat) : List Nat → List Nat
  | [] => [x]
  | y :: ys => if y < x then y :: ins x ys else x :: y :: ys
def isrt : List Nat → List Nat
  | [] => []
  | x :: xs => ins x (isrt xs)
theorem ins_perm (x : Nat) : ∀ l, (ins x l).Perm (x :: l)
  | [] => List.Perm.refl _
  | y :: ys => by
    rw [ins]
    split
    · exact ((ins_perm x ys).cons y).trans (List.Perm.swap x y ys)
    · exact List.Perm.refl _
theorem isrt_perm : ∀ l, (isrt l).Perm l
  | [] => List.Perm.refl _
  | x :: xs => (ins_perm x (isrt xs)).trans ((isrt_perm xs).cons x)
theorem ins_sorted (x : Nat) : ∀ l, l.Pairwise (· ≤ ·) → (ins x l).Pairwise (· ≤ ·)
  | [], _ => by simp [ins]
  | y :: ys, h => by
    rw [List.pairwise_cons] at h
    rw [ins]
    split
    · rename_i hy
      rw [List.pairwise_cons]
      refine ⟨fun a ha => ?_, ins_sorted x ys h.2⟩
      rcases List.mem_cons.mp ((ins_perm x ys).mem_iff.mp ha) with rfl | q
      · omega
      · exact h.1 a q
    · rename_i hy
      rw [List.pairwise_cons, List.pairwise_cons]
      refine ⟨fun a ha => ?_, h⟩
      rcases List.mem_cons.mp ha with rfl | q
      · omega
      · have := h.1 a q; omega
theorem isrt_sorted : ∀ l, (isrt l).Pairwise (· ≤ ·)
  | [] => List.Pairwise.nil
  | x :: xs => ins_sorted x _ (isrt_sorted xs)
theorem ins_wt (x : Nat) : ∀ l, x + 2 * wt l ≤ wt (ins x l) ∧ (x + 2 * wt l = wt (ins x l) → ins x l = x :: l)
  | [] => ⟨Nat.le_refl _, fun _ => rfl⟩
  | y :: ys => by
    rw [ins]
    split
    · rename_i hy
      obtain ⟨h1, _⟩ := ins_wt x ys
      simp only [wt]
      exact ⟨by omega, fun e => by omega⟩
    · exact ⟨Nat.le_refl _, fun _ => rfl⟩
theorem isrt_wt : ∀ l, wt l ≤ wt (isrt l) ∧ (wt l = wt (isrt l) → isrt l = l)
  | [] => ⟨Nat.le_refl _, fun _ => rfl⟩
  | x :: xs => by
    obtain ⟨h1, h2⟩ := isrt_wt xs
    obtain ⟨h3, h4⟩ := ins_wt x (isrt xs)
    rw [isrt]
    refine ⟨by simp only [wt]; omega, fun e => ?_⟩
    simp only [wt] at e
    have e1 : wt xs = wt (isrt xs) := by omega
    rw [h4 (by omega), h2 e1]
theorem sorted_wt {l s : List Nat} (hs : s.Pairwise (· ≤ ·)) (hp : s.Perm l) : wt l ≤ wt s ∧ (wt l = wt s → s = l) := by
  have e : s = isrt l := List.Perm.eq_of_pairwise (fun a b _ _ h h' => Nat.le_antisymm h h') hs (isrt_sorted l) (hp.trans (isrt_perm l).symm)
  rw [e]
  exact isrt_wt l
/-! ## bits -/
def nb (b : Bool) : Nat := if b then 1 else 0
theorem nb_t : nb true = 1 := rfl
theorem nb_f : nb false = 0 := rfl
def vl (bs : List Bool) : Nat := wt (bs.map nb)
theorem vl_cons (b : Bool) (bs : List Bool) : vl (b :: bs) = nb b + 2 * vl bs := rfl
theorem vl_inj : ∀ {a b : List Bool}, a.length = b.length → vl a = vl b → a = b
  | [], [], _, _ => rfl
  | [], _ :: _, h, _ => by cases h
  | _ :: _, [], h, _ => by cases h
  | x :: a, y :: b, h, e => by
    rw [vl_cons, vl_cons] at e
    have h1 : x = y := by cases x <;> cases y <;> simp only [nb_t, nb_f] at e <;> first | rfl | omega
    subst h1
    rw [vl_inj (Nat.succ.inj h) (by omega)]
/-- the last place where they differ -/
theorem vl_last : ∀ {a b : List Bool} (j : Nat), a.length = b.length → vl a ≤ vl b → a.getD j false = true → b.getD j false = false → ∃ k, j < k ∧ k < a.length ∧ a.getD k false = false ∧ b.getD k false = true ∧ ∀ m, k < m → a.getD m false = b.getD m false
  | [], _, j, _, _, h1, _ => by simp at h1
  | _ :: _, [], _, h, _, _, _ => by cases h
  | x :: a, y :: b, 0, h, hle, h1, h2 => by
    have hx : x = true := h1
    have hy : y = false := h2
    subst hx hy
    rw [vl_cons, vl_cons] at hle
    simp only [nb_t, nb_f] at hle
    have hlt : vl a < vl b := by omega
    obtain ⟨k, k1, k2, k3, k4⟩ := vl_lt (Nat.succ.inj h) hlt
    exact ⟨k + 1, by omega, by simpa using k1, by simpa using k2, by simpa using k3, fun m hm => by
      obtain ⟨m', rfl⟩ : ∃ m', m = m' + 1 := ⟨m - 1, by omega⟩
      simpa using k4 m' (by omega)⟩
  | x :: a, y :: b, j + 1, h, hle, h1, h2 => by
    rw [vl_cons, vl_cons] at hle
    have hle' : vl a ≤ vl b := by
      cases x <;> cases y <;> simp only [nb_t, nb_f] at hle <;> omega
    obtain ⟨k, k0, k1, k2, k3, k4⟩ := vl_last (a := a) (b := b) j (Nat.succ.inj h) hle' (by simpa using h1) (by simpa using h2)
    exact ⟨k + 1, by omega, by simpa using k1, by simpa using k2, by simpa using k3, fun m hm => by
      obtain ⟨m', rfl⟩ : ∃ m', m = m' + 1 := ⟨m - 1, by omega⟩
      simpa using k4 m' (by omega)⟩
where
  vl_lt : ∀ {a b : List Bool}, a.length = b.length → vl a < vl b → ∃ k, k < a.length ∧ a.getD k false = false ∧ b.getD k false = true ∧ ∀ m, k < m → a.getD m false = b.getD m false
    | [], [], _, h => by cases h
    | [], _ :: _, h, _ => by cases h
    | _ :: _, [], h, _ => by cases h
    | x :: a, y :: b, h, hlt => by
      rw [vl_cons, vl_cons] at hlt
      by_cases hab : vl a < vl b
      · obtain ⟨k, k1, k2, k3, k4⟩ := vl_lt (Nat.succ.inj h) hab
        exact ⟨k + 1, by simpa using k1, by simpa using k2, by simpa using k3, fun m hm => by
          obtain ⟨m', rfl⟩ : ∃ m', m = m' + 1 := ⟨m - 1, by omega⟩
          simpa using k4 m' (by omega)⟩
      · have hge : vl a = vl b := by cases x <;> cases y <;> simp only [nb_t, nb_f] at hlt <;> omega
        have e := vl_inj (Nat.succ.inj h) hge
        subst e
        have hx : x = false := by cases x <;> cases y <;> simp only [nb_t, nb_f] at hlt <;> first | rfl | omega
        have hy : y = true := by cases x <;> cases y <;> simp only [nb_t, nb_f] at hlt <;> first | rfl | omega
        subst hx hy
        exact ⟨0, by simp, rfl, rfl, fun m hm => by
          obtain ⟨m', rfl⟩ : ∃ m', m = m' + 1 := ⟨m - 1, by omega⟩
          simp⟩
/-! ## the two readings of a table's weight -/
theorem wt_add {α : Type} (f g : α → Nat) : ∀ l : List α, wt (l.map fun x => f x + 2 * g x) = wt (l.map f) + 2 * wt (l.map g)
  | [] => rfl
  | x :: l => by
    simp only [List.map_cons, wt]
    rw [wt_add f g l]
    omega
theorem wt_zero {α : Type} : ∀ l : List α, wt (l.map fun _ => 0) = 0
  | [] => rfl
  | x :: l => by simp only [List.map_cons, wt]; rw [wt_zero l]
theorem wt_swap {α β : Type} (n : α → β → Nat) (bs : List β) : ∀ as : List α, wt (as.map fun a => wt (bs.map fun b => n a b)) = wt (bs.map fun b => wt (as.map fun a => n a b))
  | [] => by
    simp only [List.map_nil, wt]
    exact (wt_zero bs).symm
  | a :: as => by
    simp only [List.map_cons, wt]
    rw [wt_swap n bs as, wt_add (fun b => n a b) (fun b => wt (as.map fun a => n a b)) bs]
/-! ## sorting by a value, then by the number -/
def leK (v : Nat → Nat) (a b : Nat) : Bool := decide (v a < v b) || (decide (v a = v b) && decide (a ≤ b))
theorem leK_trans (v : Nat → Nat) (a b c : Nat) (h1 : leK v a b = true) (h2 : leK v b c = true) : leK v a c = true := by
  unfold leK at *
  simp only [Bool.or_eq_true, Bool.and_eq_true, decide_eq_true_eq] at *
  omega
theorem leK_total (v : Nat → Nat) (a b : Nat) : (leK v a b || leK v b a) = true := by
  unfold leK
  simp only [Bool.or_eq_true, Bool.and_eq_true, decide_eq_true_eq]
  omega
def srtK (v : Nat → Nat) (l : List Nat) : List Nat := l.mergeSort (leK v)
theorem srtK_perm (v : Nat → Nat) (l : List Nat) : (srtK v l).Perm l := List.mergeSort_perm _ _
theorem srtK_sorted (v : Nat → Nat) (l : List Nat) : (srtK v l).Pairwise fun a b => leK v a b = true := List.pairwise_mergeSort (leK_trans v) (leK_total v) l
theorem srtK_vals (v : Nat → Nat) (l : List Nat) : ((srtK v l).map v).Pairwise (· ≤ ·) := by
  rw [List.pairwise_map]
  refine (srtK_sorted v l).imp fun {a b} h => ?_
  unfold leK at h
  simp only [Bool.or_eq_true, Bool.and_eq_true, decide_eq_true_eq] at h
  omega
theorem srtK_wt (v : Nat → Nat) (l : List Nat) : wt (l.map v) ≤ wt ((srtK v l).map v) ∧ (wt (l.map v) = wt ((srtK v l).map v) → (srtK v l).map v = l.map v) :=
  sorted_wt (srtK_vals v l) ((srtK_perm v l).map v)
theorem srtK_congr {v w : Nat → Nat} {l : List Nat} (h : ∀ a ∈ l, v a = w a) : srtK v l = srtK w l := by
  unfold srtK
  have := List.map_mergeSort (f := id) (r := leK v) (s := leK w) (l := l) fun a ha b hb => by
    show leK v a b = leK w a b
    unfold leK
    rw [h a ha, h b hb]
  simpa using this
theorem srtK_id {v : Nat → Nat} {l : List Nat} (h : l.Pairwise fun a b => leK v a b = true) : srtK v l = l := List.mergeSort_of_pairwise h
/-! ## the turns of orders_of -/
section
variable (t : Tb)
def rv (cols : List Nat) (r : Nat) : Nat := wt (cols.map fun c => nb (tb t r c))
def cv (rows : List Nat) (c : Nat) : Nat := wt (rows.map fun r => nb (tb t r c))
def once (p : List Nat × List Nat) : List Nat × List Nat := (srtK (rv t p.2) p.1, srtK (cv t (srtK (rv t p.2) p.1)) p.2)
def pot (p : List Nat × List Nat) : Nat := wt (p.1.map (rv t p.2))
theorem pot_swap (p : List Nat × List Nat) : pot t p = wt (p.2.map (cv t p.1)) := wt_swap (fun r c => nb (tb t r c)) p.2 p.1
theorem once_perm (p : List Nat × List Nat) : (once t p).1.Perm p.1 ∧ (once t p).2.Perm p.2 := ⟨srtK_perm _ _, srtK_perm _ _⟩
theorem once_pot (p : List Nat × List Nat) : pot t p ≤ pot t (once t p) ∧ (pot t p = pot t (once t p) → once t (once t p) = once t p) := by
  obtain ⟨rows, cols⟩ := p
  have h1 := srtK_wt (rv t cols) rows
  have h2 := srtK_wt (cv t (srtK (rv t cols) rows)) cols
  have s1 := srtK_sorted (rv t cols) rows
  have s2 := srtK_sorted (cv t (srtK (rv t cols) rows)) cols
  have eo : once t (rows, cols) = (srtK (rv t cols) rows, srtK (cv t (srtK (rv t cols) rows)) cols) := rfl
  rw [eo]
  have e0 : pot t (rows, cols) = wt (rows.map (rv t cols)) := rfl
  generalize srtK (rv t cols) rows = rows' at *
  generalize srtK (cv t rows') cols = cols' at *
  have e1 : pot t (rows', cols) = wt (rows'.map (rv t cols)) := rfl
  have e2 : pot t (rows', cols) = wt (cols.map (cv t rows')) := pot_swap t (rows', cols)
  have e3 : pot t (rows', cols') = wt (cols'.map (cv t rows')) := pot_swap t (rows', cols')
  refine ⟨by omega, fun e => ?_⟩
  have b2 := h2.2 (by omega)
  have same : ∀ r ∈ rows', rv t cols' r = rv t cols r := by
    intro r hr
    show wt (cols'.map fun c => nb (tb t r c)) = wt (cols.map fun c => nb (tb t r c))
    congr 1
    apply List.ext_getElem?
    intro j
    rw [List.getElem?_map, List.getElem?_map]
    have hj : (cols'.map (cv t rows'))[j]? = (cols.map (cv t rows'))[j]? := by rw [b2]
    rw [List.getElem?_map, List.getElem?_map] at hj
    cases z1 : cols'[j]? with
    | none =>
      rw [z1] at hj
      cases z2 : cols[j]? with
      | none => rfl
      | some c => rw [z2] at hj; cases hj
    | some c1 =>
      rw [z1] at hj
      cases z2 : cols[j]? with
      | none => rw [z2] at hj; cases hj
      | some c2 =>
        rw [z2] at hj
        have hv : cv t rows' c1 = cv t rows' c2 := Option.some.inj hj
        have hbits : rows'.map (fun r => tb t r c1) = rows'.map (fun r => tb t r c2) := by
          apply vl_inj (by rw [List.length_map, List.length_map])
          unfold vl
          rw [List.map_map, List.map_map]
          exact hv
        have := List.map_inj_left.mp hbits r hr
        dsimp only [Option.map_some]
        rw [this]
  have eo2 : once t (rows', cols') = (srtK (rv t cols') rows', srtK (cv t (srtK (rv t cols') rows')) cols') := rfl
  rw [eo2, srtK_congr same, srtK_id s1, srtK_id s2]
end
/-! ## in a table whose orders stand still no corner is left, or there is a ring -/
end Lw
set_option Elab.async false
set_option linter.all false
set_option maxRecDepth 100000
set_option maxHeartbeats 4000000
set_option autoImplicit false
namespace Lw
open PySem L2 Rf

theorem ring3 {t : Tb} {a b c x y z : Nat} (h1 : tb t a x = true) (h2 : tb t a y = true) (h3 : tb t a z = false) (h4 : tb t b x = false) (h5 : tb t b y = true) (h6 : tb t b z = true) (h7 : tb t c x = true) (h8 : tb t c y = false) (h9 : tb t c z = true) :
    ringOn t [a, b, c] [x, y, z] = true := by
  show (List.range 3).all (fun i => (List.range 3).all fun j => tb t ([a, b, c].getD i 0) ([x, y, z].getD j 0) == wantd 3 i j) = true
  rw [show List.range 3 = [0, 1, 2] from rfl]
  simp [h1, h2, h3, h4, h5, h6, h7, h8, h9, wantd]
theorem ring4 {t : Tb} {a b c d x y z w : Nat} (h1 : tb t a x = true) (h2 : tb t a y = true) (h3 : tb t a z = false) (h4 : tb t a w = false) (i1 : tb t b x = false) (i2 : tb t b y = true) (i3 : tb t b z = true) (i4 : tb t b w = false)
    (j1 : tb t c x = false) (j2 : tb t c y = false) (j3 : tb t c z = true) (j4 : tb t c w = true) (k1 : tb t d x = true) (k2 : tb t d y = false) (k3 : tb t d z = false) (k4 : tb t d w = true) : ringOn t [a, b, c, d] [x, y, z, w] = true := by
  show (List.range 4).all (fun i => (List.range 4).all fun j => tb t ([a, b, c, d].getD i 0) ([x, y, z, w].getD j 0) == wantd 4 i j) = true
  rw [show List.range 4 = [0, 1, 2, 3] from rfl]
  simp [h1, h2, h3, h4, i1, i2, i3, i4, j1, j2, j3, j4, k1, k2, k3, k4, wantd]
theorem ring5 {t : Tb} {a b c d e x y z w v : Nat} (h1 : tb t a x = true) (h2 : tb t a y = true) (h3 : tb t a z = false) (h4 : tb t a w = false) (h5 : tb t a v = false) (i1 : tb t b x = false) (i2 : tb t b y = true) (i3 : tb t b z = true) (i4 : tb t b w = false) (i5 : tb t b v = false)
    (j1 : tb t c x = false) (j2 : tb t c y = false) (j3 : tb t c z = true) (j4 : tb t c w = true) (j5 : tb t c v = false) (k1 : tb t d x = false) (k2 : tb t d y = false) (k3 : tb t d z = false) (k4 : tb t d w = true) (k5 : tb t d v = true)
    (l1 : tb t e x = true) (l2 : tb t e y = false) (l3 : tb t e z = false) (l4 : tb t e w = false) (l5 : tb t e v = true) : ringOn t [a, b, c, d, e] [x, y, z, w, v] = true := by
  show (List.range 5).all (fun i => (List.range 5).all fun j => tb t ([a, b, c, d, e].getD i 0) ([x, y, z, w, v].getD j 0) == wantd 5 i j) = true
  rw [show List.range 5 = [0, 1, 2, 3, 4] from rfl]
  simp [h1, h2, h3, h4, h5, i1, i2, i3, i4, i5, j1, j2, j3, j4, j5, k1, k2, k3, k4, k5, l1, l2, l3, l4, l5, wantd]
theorem nodup_at {xs : List Nat} (nd : xs.Nodup) {i j : Nat} (hi : i < xs.length) (hj : j < xs.length) (h : i ≠ j) : xs.getD i 0 ≠ xs.getD j 0 := by
  rw [List.getD_eq_getElem?_getD, List.getD_eq_getElem?_getD, List.getElem?_eq_getElem hi, List.getElem?_eq_getElem hj]
  intro e
  have e' : xs[i] = xs[j] := e
  rcases Nat.lt_or_gt_of_ne h with q | q
  · exact List.pairwise_iff_getElem.mp nd i j hi hj q e'
  · exact List.pairwise_iff_getElem.mp nd j i hj hi q e'.symm
theorem nd3 {a b c : Nat} (h1 : a ≠ b) (h2 : a ≠ c) (h3 : b ≠ c) : [a, b, c].Nodup := by simp [h1, h2, h3]
theorem nd4 {a b c d : Nat} (h1 : a ≠ b) (h2 : a ≠ c) (h3 : a ≠ d) (h4 : b ≠ c) (h5 : b ≠ d) (h6 : c ≠ d) : [a, b, c, d].Nodup := by simp [h1, h2, h3, h4, h5, h6]
theorem nd5 {a b c d e : Nat} (h1 : a ≠ b) (h2 : a ≠ c) (h3 : a ≠ d) (h4 : a ≠ e) (h5 : b ≠ c) (h6 : b ≠ d) (h7 : b ≠ e) (h8 : c ≠ d) (h9 : c ≠ e) (h10 : d ≠ e) : [a, b, c, d, e].Nodup := by simp [h1, h2, h3, h4, h5, h6, h7, h8, h9, h10]
/-- orders that stand still -/
structure Still (t : Tb) (rows cols : List Nat) : Prop where
  r : ∀ i i', i < i' → i' < rows.length → rv t cols (rows.getD i 0) ≤ rv t cols (rows.getD i' 0)
  c : ∀ j j', j < j' → j' < cols.length → cv t rows (cols.getD j 0) ≤ cv t rows (cols.getD j' 0)
theorem still_of {t : Tb} {rows cols : List Nat} (h : once t (rows, cols) = (rows, cols)) : Still t rows cols := by
  have h1 : srtK (rv t cols) rows = rows := congrArg Prod.fst h
  have h2 : srtK (cv t (srtK (rv t cols) rows)) cols = cols := congrArg Prod.snd h
  rw [h1] at h2
  have a1 := srtK_vals (rv t cols) rows
  have a2 := srtK_vals (cv t rows) cols
  rw [h1] at a1
  rw [h2] at a2
  have key : ∀ (v : Nat → Nat) (l : List Nat), (l.map v).Pairwise (· ≤ ·) → ∀ i i', i < i' → i' < l.length → v (l.getD i 0) ≤ v (l.getD i' 0) := fun v l hp i i' hii hi' => by
    have := List.pairwise_iff_getElem.mp hp i i' (by rw [List.length_map]; omega) (by rw [List.length_map]; exact hi') hii
    rw [List.getElem_map, List.getElem_map] at this
    rw [List.getD_eq_getElem?_getD, List.getD_eq_getElem?_getD, List.getElem?_eq_getElem (by omega : i < l.length), List.getElem?_eq_getElem hi']
    exact this
  exact ⟨key _ _ a1, key _ _ a2⟩
theorem getD_map {l : List Nat} (f : Nat → Bool) {j : Nat} (hj : j < l.length) : (l.map f).getD j false = f (l.getD j 0) := by
  rw [List.getD_eq_getElem?_getD, List.getD_eq_getElem?_getD, List.getElem?_map, List.getElem?_eq_getElem hj]
  rfl
section
variable {t : Tb} {rows cols : List Nat}
theorem Still.right (h : Still t rows cols) {i i' j : Nat} (hi : i < i') (hi' : i' < rows.length) (hj : j < cols.length) (h1 : tb t (rows.getD i 0) (cols.getD j 0) = true) (h2 : tb t (rows.getD i' 0) (cols.getD j 0) = false) :
    ∃ k, j < k ∧ k < cols.length ∧ tb t (rows.getD i 0) (cols.getD k 0) = false ∧ tb t (rows.getD i' 0) (cols.getD k 0) = true ∧ ∀ m, k < m → m < cols.length → tb t (rows.getD i 0) (cols.getD m 0) = tb t (rows.getD i' 0) (cols.getD m 0) := by
  have hle := h.r i i' hi hi'
  have e : ∀ r, rv t cols r = vl (cols.map fun c => tb t r c) := fun r => by unfold rv vl; rw [List.map_map]; rfl
  rw [e, e] at hle
  obtain ⟨k, k1, k2, k3, k4, k5⟩ := vl_last (a := cols.map fun c => tb t (rows.getD i 0) c) (b := cols.map fun c => tb t (rows.getD i' 0) c) j (by simp) hle (by rw [getD_map _ hj]; exact h1) (by rw [getD_map _ hj]; exact h2)
  rw [List.length_map] at k2
  rw [getD_map _ k2] at k3 k4
  refine ⟨k, k1, k2, k3, k4, fun m hm hl => ?_⟩
  have := k5 m hm
  rw [getD_map _ hl, getD_map _ hl] at this
  exact this
theorem Still.down (h : Still t rows cols) {j j' i : Nat} (hj : j < j') (hj' : j' < cols.length) (hi : i < rows.length) (h1 : tb t (rows.getD i 0) (cols.getD j 0) = true) (h2 : tb t (rows.getD i 0) (cols.getD j' 0) = false) :
    ∃ k, i < k ∧ k < rows.length ∧ tb t (rows.getD k 0) (cols.getD j 0) = false ∧ tb t (rows.getD k 0) (cols.getD j' 0) = true ∧ ∀ m, k < m → m < rows.length → tb t (rows.getD m 0) (cols.getD j 0) = tb t (rows.getD m 0) (cols.getD j' 0) := by
  have hle := h.c j j' hj hj'
  have e : ∀ c, cv t rows c = vl (rows.map fun r => tb t r c) := fun c => by unfold cv vl; rw [List.map_map]; rfl
  rw [e, e] at hle
  obtain ⟨k, k1, k2, k3, k4, k5⟩ := vl_last (a := rows.map fun r => tb t r (cols.getD j 0)) (b := rows.map fun r => tb t r (cols.getD j' 0)) i (by simp) hle (by rw [getD_map (fun r => tb t r (cols.getD j 0)) hi]; exact h1) (by rw [getD_map (fun r => tb t r (cols.getD j' 0)) hi]; exact h2)
  rw [List.length_map] at k2
  rw [getD_map (fun r => tb t r (cols.getD j 0)) k2] at k3
  rw [getD_map (fun r => tb t r (cols.getD j' 0)) k2] at k4
  refine ⟨k, k1, k2, k3, k4, fun m hm hl => ?_⟩
  have := k5 m hm
  rw [getD_map (fun r => tb t r (cols.getD j 0)) hl, getD_map (fun r => tb t r (cols.getD j' 0)) hl] at this
  exact this
/-- a corner in orders that stand still leads to a ring -/
theorem Still.ring (h : Still t rows cols) {R C : Nat} (ndr : rows.Nodup) (ndc : cols.Nodup) (ltr : ∀ a ∈ rows, a < R) (ltc : ∀ a ∈ cols, a < C) (h5 : cols.length ≤ 5) {i1 i2 j1 j2 : Nat} (hi : i1 < i2) (hi2 : i2 < rows.length) (hj : j1 < j2) (hj2 : j2 < cols.length)
    (m11 : tb t (rows.getD i1 0) (cols.getD j1 0) = true) (m12 : tb t (rows.getD i1 0) (cols.getD j2 0) = true) (m21 : tb t (rows.getD i2 0) (cols.getD j1 0) = true) (m22 : tb t (rows.getD i2 0) (cols.getD j2 0) = false) : HasRing t R C := by
  have mr : ∀ {i}, i < rows.length → rows.getD i 0 < R := fun hi => all_lt ltr hi
  have mc : ∀ {j}, j < cols.length → cols.getD j 0 < C := fun hj => all_lt ltc hj
  have dr : ∀ {i j}, i < rows.length → j < rows.length → i ≠ j → rows.getD i 0 ≠ rows.getD j 0 := fun a b c => nodup_at ndr a b c
  have dc : ∀ {i j}, i < cols.length → j < cols.length → i ≠ j → cols.getD i 0 ≠ cols.getD j 0 := fun a b c => nodup_at ndc a b c
  obtain ⟨j3, q1, q2, m13, m23, A1⟩ := h.right hi hi2 hj2 m12 m22
  obtain ⟨i3, p1, p2, m31, m32, B1⟩ := h.down hj hj2 hi2 m21 m22
  cases m33 : tb t (rows.getD i3 0) (cols.getD j3 0) with
  | true =>
    refine ⟨[rows.getD i1 0, rows.getD i3 0, rows.getD i2 0], [cols.getD j1 0, cols.getD j2 0, cols.getD j3 0], by simp, rfl, ?_, ?_, ?_, ?_, ring3 m11 m12 m13 m31 m32 m33 m21 m22 m23⟩
    · have d1 := dr (i := i1) (j := i3) (by omega) (by omega) (by omega)
      have d2 := dr (i := i1) (j := i2) (by omega) (by omega) (by omega)
      have d3 := dr (i := i3) (j := i2) (by omega) (by omega) (by omega)
      exact nd3 d1 d2 d3
    · have d1 := dc (i := j1) (j := j2) (by omega) (by omega) (by omega)
      have d2 := dc (i := j1) (j := j3) (by omega) (by omega) (by omega)
      have d3 := dc (i := j2) (j := j3) (by omega) (by omega) (by omega)
      exact nd3 d1 d2 d3
    · intro a ha
      simp only [List.mem_cons, List.not_mem_nil, or_false] at ha
      rcases ha with rfl | rfl | rfl <;> exact mr (by omega)
    · intro a ha
      simp only [List.mem_cons, List.not_mem_nil, or_false] at ha
      rcases ha with rfl | rfl | rfl <;> exact mc (by omega)
  | false =>
    obtain ⟨j4, q3, q4, m24, m34, A2⟩ := h.right p1 p2 q2 m23 m33
    obtain ⟨i4, p3, p4, m42, m43, B2⟩ := h.down q1 q2 p2 m32 m33
    have m14 : tb t (rows.getD i1 0) (cols.getD j4 0) = false := by rw [A1 j4 q3 q4]; exact m24
    have m41 : tb t (rows.getD i4 0) (cols.getD j1 0) = false := by rw [B1 i4 p3 p4]; exact m42
    cases m44 : tb t (rows.getD i4 0) (cols.getD j4 0) with
    | true =>
      refine ⟨[rows.getD i1 0, rows.getD i3 0, rows.getD i4 0, rows.getD i2 0], [cols.getD j1 0, cols.getD j2 0, cols.getD j4 0, cols.getD j3 0], by simp, rfl, ?_, ?_, ?_, ?_, ring4 m11 m12 m14 m13 m31 m32 m34 m33 m41 m42 m44 m43 m21 m22 m24 m23⟩
      · have d1 := dr (i := i1) (j := i3) (by omega) (by omega) (by omega)
        have d2 := dr (i := i1) (j := i4) (by omega) (by omega) (by omega)
        have d3 := dr (i := i1) (j := i2) (by omega) (by omega) (by omega)
        have d4 := dr (i := i3) (j := i4) (by omega) (by omega) (by omega)
        have d5 := dr (i := i3) (j := i2) (by omega) (by omega) (by omega)
        have d6 := dr (i := i4) (j := i2) (by omega) (by omega) (by omega)
        exact nd4 d1 d2 d3 d4 d5 d6
      · have d1 := dc (i := j1) (j := j2) (by omega) (by omega) (by omega)
        have d2 := dc (i := j1) (j := j4) (by omega) (by omega) (by omega)
        have d3 := dc (i := j1) (j := j3) (by omega) (by omega) (by omega)
        have d4 := dc (i := j2) (j := j4) (by omega) (by omega) (by omega)
        have d5 := dc (i := j2) (j := j3) (by omega) (by omega) (by omega)
        have d6 := dc (i := j4) (j := j3) (by omega) (by omega) (by omega)
        exact nd4 d1 d2 d3 d4 d5 d6
      · intro a ha
        simp only [List.mem_cons, List.not_mem_nil, or_false] at ha
        rcases ha with rfl | rfl | rfl | rfl <;> exact mr (by omega)
      · intro a ha
        simp only [List.mem_cons, List.not_mem_nil, or_false] at ha
        rcases ha with rfl | rfl | rfl | rfl <;> exact mc (by omega)
    | false =>
      obtain ⟨j5, q5, q6, m35, m45, A3⟩ := h.right p3 p4 q4 m34 m44
      obtain ⟨i5, p5, p6, m53, m54, B3⟩ := h.down q3 q4 p4 m43 m44
      have m25 : tb t (rows.getD i2 0) (cols.getD j5 0) = false := by rw [A2 j5 q5 q6]; exact m35
      have m15 : tb t (rows.getD i1 0) (cols.getD j5 0) = false := by rw [A1 j5 (by omega) q6]; exact m25
      have m52 : tb t (rows.getD i5 0) (cols.getD j2 0) = false := by rw [B2 i5 p5 p6]; exact m53
      have m51 : tb t (rows.getD i5 0) (cols.getD j1 0) = false := by rw [B1 i5 (by omega) p6]; exact m52
      cases m55 : tb t (rows.getD i5 0) (cols.getD j5 0) with
      | true =>
        refine ⟨[rows.getD i1 0, rows.getD i3 0, rows.getD i5 0, rows.getD i4 0, rows.getD i2 0], [cols.getD j1 0, cols.getD j2 0, cols.getD j4 0, cols.getD j5 0, cols.getD j3 0], by simp, rfl, ?_, ?_, ?_, ?_,
          ring5 m11 m12 m14 m15 m13 m31 m32 m34 m35 m33 m51 m52 m54 m55 m53 m41 m42 m44 m45 m43 m21 m22 m24 m25 m23⟩
        · have d1 := dr (i := i1) (j := i3) (by omega) (by omega) (by omega)
          have d2 := dr (i := i1) (j := i5) (by omega) (by omega) (by omega)
          have d3 := dr (i := i1) (j := i4) (by omega) (by omega) (by omega)
          have d4 := dr (i := i1) (j := i2) (by omega) (by omega) (by omega)
          have d5 := dr (i := i3) (j := i5) (by omega) (by omega) (by omega)
          have d6 := dr (i := i3) (j := i4) (by omega) (by omega) (by omega)
          have d7 := dr (i := i3) (j := i2) (by omega) (by omega) (by omega)
          have d8 := dr (i := i5) (j := i4) (by omega) (by omega) (by omega)
          have d9 := dr (i := i5) (j := i2) (by omega) (by omega) (by omega)
          have d10 := dr (i := i4) (j := i2) (by omega) (by omega) (by omega)
          exact nd5 d1 d2 d3 d4 d5 d6 d7 d8 d9 d10
        · have d1 := dc (i := j1) (j := j2) (by omega) (by omega) (by omega)
          have d2 := dc (i := j1) (j := j4) (by omega) (by omega) (by omega)
          have d3 := dc (i := j1) (j := j5) (by omega) (by omega) (by omega)
          have d4 := dc (i := j1) (j := j3) (by omega) (by omega) (by omega)
          have d5 := dc (i := j2) (j := j4) (by omega) (by omega) (by omega)
          have d6 := dc (i := j2) (j := j5) (by omega) (by omega) (by omega)
          have d7 := dc (i := j2) (j := j3) (by omega) (by omega) (by omega)
          have d8 := dc (i := j4) (j := j5) (by omega) (by omega) (by omega)
          have d9 := dc (i := j4) (j := j3) (by omega) (by omega) (by omega)
          have d10 := dc (i := j5) (j := j3) (by omega) (by omega) (by omega)
          exact nd5 d1 d2 d3 d4 d5 d6 d7 d8 d9 d10
        · intro a ha
          simp only [List.mem_cons, List.not_mem_nil, or_false] at ha
          rcases ha with rfl | rfl | rfl | rfl | rfl <;> exact mr (by omega)
        · intro a ha
          simp only [List.mem_cons, List.not_mem_nil, or_false] at ha
          rcases ha with rfl | rfl | rfl | rfl | rfl <;> exact mc (by omega)
      | false =>
        obtain ⟨j6, q7, q8, _⟩ := h.right p5 p6 q6 m45 m55
        omega
end
end Lw
set_option Elab.async false
set_option linter.all false
set_option maxRecDepth 100000
set_option maxHeartbeats 4000000
set_option autoImplicit false
namespace Lw
open PySem L2 Rf PySem.W PyProof.Rows

/-! ## keys compared -/
def toks (A : List Bool) : List (Int ⊕ List Nat) := keyToksAll (toPys (A.map bI))
theorem toks_nil : toks [] = [.inl 0] := by unfold toks; simp [toPys, keyToksAll]
theorem toks_cons (x : Bool) (A : List Bool) : toks (x :: A) = .inl 1 :: .inl ((nb x : Nat) : Int) :: toks A := by
  unfold toks
  rw [List.map_cons, toPys, keyToksAll]
  cases x <;> simp [bI, toPy, keyToks, nb]
def be : List Bool → Nat
  | [] => 0
  | x :: A => nb x * 2 ^ A.length + be A
theorem be_lt : ∀ A : List Bool, be A < 2 ^ A.length
  | [] => by simp [be]
  | x :: A => by
    have := be_lt A
    rw [be, List.length_cons, Nat.pow_succ]
    cases x <;> simp only [nb_t, nb_f] <;> omega
theorem be_snoc (x : Bool) : ∀ A : List Bool, be (A ++ [x]) = 2 * be A + nb x
  | [] => by simp [be]
  | y :: A => by
    rw [List.cons_append, be, be, be_snoc x A, List.length_append]
    simp only [List.length_cons, List.length_nil, Nat.pow_succ]
    cases y <;> simp only [nb_t, nb_f] <;> omega
theorem be_rev : ∀ L : List Bool, be L.reverse = vl L
  | [] => rfl
  | x :: L => by rw [List.reverse_cons, be_snoc, be_rev L, vl_cons]; omega
theorem lex_bits : ∀ (A B : List Bool) (p q : List (Int ⊕ List Nat)), A.length = B.length → PyProof.Rows.lexLt itemOrd (toks A ++ p) (toks B ++ q) = (decide (be A < be B) || (decide (be A = be B) && PyProof.Rows.lexLt itemOrd p q))
  | [], [], p, q, _ => by
    rw [toks_nil, List.cons_append, List.nil_append, List.cons_append, List.nil_append, PyProof.Rows.lex_self]
    simp [be]
  | [], _ :: _, _, _, h => by cases h
  | _ :: _, [], _, _, h => by cases h
  | x :: A, y :: B, p, q, h => by
    have hl : A.length = B.length := Nat.succ.inj h
    rw [toks_cons, toks_cons, List.cons_append, List.cons_append, List.cons_append, List.cons_append, PyProof.Rows.lex_self]
    have b1 := be_lt A
    have b2 := be_lt B
    rw [hl] at b1
    by_cases e : x = y
    · subst e
      rw [PyProof.Rows.lex_self, lex_bits A B p q hl, be, be, hl]
      have e1 : (nb x * 2 ^ B.length + be A < nb x * 2 ^ B.length + be B) ↔ be A < be B := by omega
      have e2 : (nb x * 2 ^ B.length + be A = nb x * 2 ^ B.length + be B) ↔ be A = be B := by omega
      rw [decide_eq_decide.mpr e1, decide_eq_decide.mpr e2]
    · rw [PyProof.Rows.lex_diff (by intro q; apply e; cases x <;> cases y <;> simp [nb] at q <;> rfl), be, be, hl]
      cases x with
      | false =>
        cases y with
        | false => exact absurd rfl e
        | true =>
          have e1 : (nb false * 2 ^ B.length + be A < nb true * 2 ^ B.length + be B) := by simp only [nb_t, nb_f]; omega
          rw [decide_eq_true e1]
          rfl
      | true =>
        cases y with
        | true => exact absurd rfl e
        | false =>
          have e1 : ¬ (nb true * 2 ^ B.length + be A < nb false * 2 ^ B.length + be B) := by simp only [nb_t, nb_f]; omega
          have e2 : ¬ (nb true * 2 ^ B.length + be A = nb false * 2 ^ B.length + be B) := by simp only [nb_t, nb_f]; omega
          rw [decide_eq_false e1, decide_eq_false e2]
          rfl
/-- the key of a row or column: its entries, the last first, and its number -/
def keyD (L : List Bool) (a : Nat) : D := .tup [.tup (L.reverse.map bI), iN a]
theorem key_toks (L : List Bool) (a : Nat) : keyToks (toPy (keyD L a)) = .inl 1 :: (toks L.reverse ++ (.inl 1 :: .inl ((a : Nat) : Int) :: [.inl 0])) := by
  unfold keyD iN toks
  simp [toPy, toPys, keyToks, keyToksAll]
theorem lex_num (a b : Nat) : PyProof.Rows.lexLt itemOrd (.inl 1 :: .inl ((a : Nat) : Int) :: [.inl 0]) (.inl 1 :: .inl ((b : Nat) : Int) :: [.inl 0]) = decide (a < b) := by
  rw [PyProof.Rows.lex_self]
  by_cases e : a = b
  · subst e
    rw [PyProof.Rows.lex_self, PyProof.Rows.lex_self]
    simp [PyProof.Rows.lexLt]
  · rw [PyProof.Rows.lex_diff (by intro q; apply e; have := Sum.inl.inj q; omega)]
    show decide (((a : Nat) : Int) < (b : Nat)) = _
    exact decide_eq_decide.mpr (by omega)
theorem dle_key {f : Nat → List Bool} {v : Nat → Nat} (hv : ∀ a, v a = vl (f a)) {a b : Nat} (hl : (f a).length = (f b).length) : dle (keyD (f a) a) (keyD (f b) b) = leK v a b := by
  show (!PyProof.Rows.lexLt itemOrd (keyToks (toPy (keyD (f b) b))) (keyToks (toPy (keyD (f a) a)))) = _
  rw [key_toks, key_toks, PyProof.Rows.lex_self, lex_bits _ _ _ _ (by rw [List.length_reverse, List.length_reverse, hl]), lex_num, be_rev, be_rev, ← hv, ← hv]
  unfold leK
  rw [Bool.eq_iff_iff]
  simp only [Bool.not_eq_true', Bool.or_eq_false_iff, Bool.and_eq_false_imp, decide_eq_false_iff_not, decide_eq_true_eq, Bool.or_eq_true, Bool.and_eq_true]
  omega
theorem alike_bits : ∀ A B : List Bool, alikeAll (toPys (A.map bI)) (toPys (B.map bI)) = true
  | [], B => by simp [toPys, alikeAll]
  | x :: A, [] => by simp [toPys, alikeAll]
  | x :: A, y :: B => by
    rw [List.map_cons, List.map_cons, toPys, toPys, alikeAll, alike_bits A B]
    simp [bI, toPy, alike]
theorem kin_keys (f : Nat → List Bool) (l : List Nat) : (kin (l.map fun a => keyD (f a) a) && srtOk (l.map fun a => keyD (f a) a)) = true := by
  rw [Bool.and_eq_true]
  constructor
  · unfold kin
    simp only [Bool.and_eq_true, List.all_eq_true, List.mem_map]
    refine ⟨⟨?_, ?_⟩, ?_⟩
    · induction l with
      | nil => rfl
      | cons a l ih =>
        rw [List.map_cons, pls, ih, Bool.and_true]
        unfold keyD
        rw [pl, pls, pl, plR]
        rfl
    · rintro x ⟨a, _, rfl⟩ y ⟨b, _, rfl⟩
      unfold keyD iN
      simp only [toPy, toPys, alike, alikeAll, alike_bits, Bool.and_self]
    · rintro x ⟨a, _, rfl⟩
      rfl
  · unfold srtOk
    rw [Bool.or_eq_true]
    left
    simp only [List.all_eq_true, List.mem_map]
    rintro x ⟨a, _, rfl⟩
    rfl
theorem sort_keys {f : Nat → List Bool} {v : Nat → Nat} {n : Nat} (hv : ∀ a, v a = vl (f a)) (hl : ∀ a, (f a).length = n) (l : List Nat) : lSortP [.lst (l.map fun a => keyD (f a) a)] = some ((srtK v l).map fun a => keyD (f a) a) := by
  show (if kin (l.map fun a => keyD (f a) a) && srtOk (l.map fun a => keyD (f a) a) then some (sortP (l.map fun a => keyD (f a) a)) else none) = _
  rw [kin_keys, if_pos rfl]
  unfold sortP srtK
  rw [List.map_mergeSort (s := dle)]
  intro a _ b _
  exact (dle_key hv (by rw [hl, hl])).symm
/-! ## sorted_once -/
section
variable {t : Tb} {R C : Nat} {rows cols : List Nat}
theorem rv_vl (cols : List Nat) (r : Nat) : rv t cols r = vl (cols.map fun c => tb t r c) := by unfold rv vl; rw [List.map_map]; rfl
theorem cv_vl (rows : List Nat) (c : Nat) : cv t rows c = vl (rows.map fun r => tb t r c) := by unfold cv vl; rw [List.map_map]; rfl
theorem sorted_once_eq (h : Sz t R C) (hr : ∀ a ∈ rows, a < R) (hc : ∀ a ∈ cols, a < C) (lr : rows.length ≤ 1000) (lc : cols.length ≤ 1000) :
    F_sorted_once [encT t, .lst (rows.map iN), .lst (cols.map iN)] = some (.ok (.tup [.lst ((once t (rows, cols)).1.map iN), .lst ((once t (rows, cols)).2.map iN)])) := by
  have l1 : (rows.map iN).length ≤ 100000 := by rw [List.length_map]; omega
  have l2 : (cols.map iN).length ≤ 100000 := by rw [List.length_map]; omega
  have hr' : ∀ a ∈ srtK (rv t cols) rows, a < R := fun a ha => hr a ((srtK_perm _ _).mem_iff.mp ha)
  have lr' : (srtK (rv t cols) rows).length = rows.length := (srtK_perm _ _).length_eq
  have l3 : ((srtK (rv t cols) rows).map iN).length ≤ 100000 := by rw [List.length_map, lr']; omega
  have lc' : (srtK (cv t (srtK (rv t cols) rows)) cols).length = cols.length := (srtK_perm _ _).length_eq
  -- the keys of the rows
  have k1 : aLc (aiL (aVar 1)) (agN 5) aYes e_sorted_once_2 [5] [.im (encT t), .im (.lst (rows.map iN)), .im (.lst (cols.map iN)), .no, .no, .no, .no, .no] = some (rows.map fun r => keyD (cols.map fun c => tb t r c) r) := by
    unfold aLc
    have e1 : aiL (aVar 1) [.im (encT t), .im (.lst (rows.map iN)), .im (.lst (cols.map iN)), .no, .no, .no, .no, .no] = some (rows.map iN) := by
      simp only [aiL, aVar, List.getElem?_cons_zero, List.getElem?_cons_succ, if_pos l1]
    rw [e1]
    dsimp only
    refine compL_i rows iN _ fun r hrm => ⟨[.im (encT t), .im (.lst (rows.map iN)), .im (.lst (cols.map iN)), .no, .no, .im (iN r), .no, .no], rfl, ?_⟩
    have in1 : aLc (aiL (aVar 2)) (agN 7) aYes e_sorted_once_1 [7] [.im (encT t), .im (.lst (rows.map iN)), .im (.lst (cols.map iN)), .no, .no, .im (iN r), .no, .no] = some (cols.map fun c => bI (tb t r c)) := by
      unfold aLc
      have e2 : aiL (aVar 2) [.im (encT t), .im (.lst (rows.map iN)), .im (.lst (cols.map iN)), .no, .no, .im (iN r), .no, .no] = some (cols.map iN) := by
        simp only [aiL, aVar, List.getElem?_cons_zero, List.getElem?_cons_succ, if_pos l2]
      rw [e2]
      dsimp only
      refine compL_i cols iN _ fun c hcm => ⟨[.im (encT t), .im (.lst (rows.map iN)), .im (.lst (cols.map iN)), .no, .no, .im (iN r), .no, .im (iN c)], rfl, ?_⟩
      unfold e_sorted_once_1
      simp only [a2, aVarM, List.getElem?_cons_zero, List.getElem?_cons_succ, h.ix (hr r hrm), h.cell (hr r hrm) (hc c hcm)]
    unfold e_sorted_once_2
    simp only [aTup, aCons, aRevT, aF, aLst, in1, aNil, dTuple, aVar, List.getElem?_cons_zero, List.getElem?_cons_succ]
    unfold keyD
    rw [← List.map_reverse, ← List.map_reverse, List.map_map]
    rfl
  have k2 : ∀ x3 : Sl, aLc (aiL (aLst (alF lSortP (aCons (aVarM 3) aNil)))) (agT 2 (agCons (agN 6) (agCons (agN 5) agNil))) aYes e_sorted_once_3 [6, 5] [.im (encT t), .im (.lst (rows.map iN)), .im (.lst (cols.map iN)), .im (.lst (rows.map fun r => keyD (cols.map fun c => tb t r c) r)), .no, .no, .no, .no] = some ((srtK (rv t cols) rows).map iN) := fun _ => by
    have so := sort_keys (f := fun r => cols.map fun c => tb t r c) (v := rv t cols) (n := cols.length) (fun r => rv_vl cols r) (fun r => List.length_map _) rows
    have ll : ((srtK (rv t cols) rows).map fun r => keyD (cols.map fun c => tb t r c) r).length ≤ 100000 := by rw [List.length_map, lr']; omega
    have e1 : aiL (aLst (alF lSortP (aCons (aVarM 3) aNil))) [.im (encT t), .im (.lst (rows.map iN)), .im (.lst (cols.map iN)), .im (.lst (rows.map fun r => keyD (cols.map fun c => tb t r c) r)), .no, .no, .no, .no] = some ((srtK (rv t cols) rows).map fun r => keyD (cols.map fun c => tb t r c) r) := by
      simp only [aiL, aLst, alF, aCons, aVarM, aNil, List.getElem?_cons_zero, List.getElem?_cons_succ, so, if_pos ll]
    unfold aLc
    rw [e1]
    dsimp only
    exact compL_i (srtK (rv t cols) rows) (fun r => keyD (cols.map fun c => tb t r c) r) iN fun r _ => ⟨[.im (encT t), .im (.lst (rows.map iN)), .im (.lst (cols.map iN)), .im (.lst (rows.map fun r => keyD (cols.map fun c => tb t r c) r)), .no, .im (iN r), .im (.tup ((cols.map fun c => tb t r c).reverse.map bI)), .no], rfl, rfl⟩
  have k3 : ∀ x3 : Sl, aLc (aiL (aVar 2)) (agN 7) aYes e_sorted_once_5 [7] [.im (encT t), .im (.lst (rows.map iN)), .im (.lst (cols.map iN)), x3, .im (.lst ((srtK (rv t cols) rows).map iN)), .no, .no, .no] = some (cols.map fun c => keyD ((srtK (rv t cols) rows).map fun r => tb t r c) c) := fun x3 => by
    unfold aLc
    have e1 : aiL (aVar 2) [.im (encT t), .im (.lst (rows.map iN)), .im (.lst (cols.map iN)), x3, .im (.lst ((srtK (rv t cols) rows).map iN)), .no, .no, .no] = some (cols.map iN) := by
      simp only [aiL, aVar, List.getElem?_cons_zero, List.getElem?_cons_succ, if_pos l2]
    rw [e1]
    dsimp only
    refine compL_i cols iN _ fun c hcm => ⟨[.im (encT t), .im (.lst (rows.map iN)), .im (.lst (cols.map iN)), x3, .im (.lst ((srtK (rv t cols) rows).map iN)), .no, .no, .im (iN c)], rfl, ?_⟩
    have in1 : aLc (aiL (aVar 4)) (agN 5) aYes e_sorted_once_4 [5] [.im (encT t), .im (.lst (rows.map iN)), .im (.lst (cols.map iN)), x3, .im (.lst ((srtK (rv t cols) rows).map iN)), .no, .no, .im (iN c)] = some ((srtK (rv t cols) rows).map fun r => bI (tb t r c)) := by
      unfold aLc
      have e2 : aiL (aVar 4) [.im (encT t), .im (.lst (rows.map iN)), .im (.lst (cols.map iN)), x3, .im (.lst ((srtK (rv t cols) rows).map iN)), .no, .no, .im (iN c)] = some ((srtK (rv t cols) rows).map iN) := by
        simp only [aiL, aVar, List.getElem?_cons_zero, List.getElem?_cons_succ, if_pos l3]
      rw [e2]
      dsimp only
      refine compL_i (srtK (rv t cols) rows) iN _ fun r hrm => ⟨[.im (encT t), .im (.lst (rows.map iN)), .im (.lst (cols.map iN)), x3, .im (.lst ((srtK (rv t cols) rows).map iN)), .im (iN r), .no, .im (iN c)], rfl, ?_⟩
      unfold e_sorted_once_4
      simp only [a2, aVarM, List.getElem?_cons_zero, List.getElem?_cons_succ, h.ix (hr' r hrm), h.cell (hr' r hrm) (hc c hcm)]
    unfold e_sorted_once_5
    simp only [aTup, aCons, aRevT, aF, aLst, in1, aNil, dTuple, aVar, List.getElem?_cons_zero, List.getElem?_cons_succ]
    unfold keyD
    rw [← List.map_reverse, ← List.map_reverse, List.map_map]
    rfl
  have k4 : aLc (aiL (aLst (alF lSortP (aCons (aVarM 3) aNil)))) (agT 2 (agCons (agN 6) (agCons (agN 7) agNil))) aYes e_sorted_once_6 [6, 7] [.im (encT t), .im (.lst (rows.map iN)), .im (.lst (cols.map iN)), .im (.lst (cols.map fun c => keyD ((srtK (rv t cols) rows).map fun r => tb t r c) c)), .im (.lst ((srtK (rv t cols) rows).map iN)), .no, .no, .no] = some ((srtK (cv t (srtK (rv t cols) rows)) cols).map iN) := by
    have so := sort_keys (f := fun c => (srtK (rv t cols) rows).map fun r => tb t r c) (v := cv t (srtK (rv t cols) rows)) (n := (srtK (rv t cols) rows).length) (fun c => cv_vl _ c) (fun c => List.length_map _) cols
    have ll : ((srtK (cv t (srtK (rv t cols) rows)) cols).map fun c => keyD ((srtK (rv t cols) rows).map fun r => tb t r c) c).length ≤ 100000 := by rw [List.length_map, lc']; omega
    have e1 : aiL (aLst (alF lSortP (aCons (aVarM 3) aNil))) [.im (encT t), .im (.lst (rows.map iN)), .im (.lst (cols.map iN)), .im (.lst (cols.map fun c => keyD ((srtK (rv t cols) rows).map fun r => tb t r c) c)), .im (.lst ((srtK (rv t cols) rows).map iN)), .no, .no, .no] = some ((srtK (cv t (srtK (rv t cols) rows)) cols).map fun c => keyD ((srtK (rv t cols) rows).map fun r => tb t r c) c) := by
      simp only [aiL, aLst, alF, aCons, aVarM, aNil, List.getElem?_cons_zero, List.getElem?_cons_succ, so, if_pos ll]
    unfold aLc
    rw [e1]
    dsimp only
    exact compL_i (srtK (cv t (srtK (rv t cols) rows)) cols) (fun c => keyD ((srtK (rv t cols) rows).map fun r => tb t r c) c) iN fun c _ => ⟨[.im (encT t), .im (.lst (rows.map iN)), .im (.lst (cols.map iN)), .im (.lst (cols.map fun c => keyD ((srtK (rv t cols) rows).map fun r => tb t r c) c)), .im (.lst ((srtK (rv t cols) rows).map iN)), .no, .im (.tup (((srtK (rv t cols) rows).map fun r => tb t r c).reverse.map bI)), .im (iN c)], rfl, rfl⟩
  unfold F_sorted_once a_sorted_once
  simp only [runF, en0, List.getElem?_cons_zero, List.getElem?_cons_succ, List.set, List.map_cons, List.map_nil, List.replicate, List.cons_append, List.nil_append, List.length_cons, List.length_nil, if_true, aSeq, aSet, aLst, k1, k2 .no, k3, aRet, aTup, aCons, aVar, k4, aNil, ofOut]
  rfl
end
end Lw
set_option Elab.async false
set_option linter.all false
set_option maxRecDepth 100000
set_option maxHeartbeats 4000000
set_option autoImplicit false
namespace Lw
open PySem L2 Rf

theorem deqs_iN : ∀ (xs ys : List Nat), deqs (xs.map iN) (ys.map iN) = decide (xs = ys)
  | [], [] => by simp [deqs]
  | [], y :: ys => by simp [deqs]
  | x :: xs, [] => by simp [deqs]
  | x :: xs, y :: ys => by
    rw [List.map_cons, List.map_cons, deqs, deqs_iN xs ys]
    have : deq (iN x) (iN y) = decide (x = y) := by
      show (((x : Nat) : Int) == ((y : Nat) : Int)) = _
      rw [Bool.eq_iff_iff, beq_iff_eq, decide_eq_true_eq]
      omega
    rw [this, Bool.eq_iff_iff]
    simp
theorem eq_pair (a b c d : List Nat) : dEq (.tup [.lst (a.map iN), .lst (b.map iN)]) (.tup [.lst (c.map iN), .lst (d.map iN)]) = some (decide ((a, b) = (c, d))) := by
  have p1 : ∀ a b : List Nat, pl (.tup [.lst (a.map iN), .lst (b.map iN)]) 8 = true := fun a b => by
    simp only [pl, pls, pls_iN, Bool.and_self]
  unfold dEq
  rw [p1, p1]
  show some (deq (.tup [.lst (a.map iN), .lst (b.map iN)]) (.tup [.lst (c.map iN), .lst (d.map iN)])) = _
  congr 1
  rw [deq, deqs, deqs, deq, deq, deqs_iN, deqs_iN]
  rw [Bool.eq_iff_iff]
  simp [deqs]
theorem wt_le (m : Nat) : ∀ l : List Nat, (∀ x ∈ l, x ≤ m) → wt l + m ≤ m * 2 ^ l.length
  | [], _ => by simp [wt]
  | x :: l, h => by
    have h1 := h x (by simp)
    have h2 := wt_le m l fun y hy => h y (by simp [hy])
    rw [wt, List.length_cons, Nat.pow_succ, Nat.mul_comm (2 ^ l.length) 2, ← Nat.mul_assoc, Nat.mul_comm m 2, Nat.mul_assoc]
    omega
theorem nb_le (b : Bool) : nb b ≤ 1 := by cases b <;> simp [nb]
theorem pot_le (t : Tb) (p : List Nat × List Nat) (h1 : p.1.length ≤ 5) (h2 : p.2.length ≤ 5) : pot t p ≤ 2000 := by
  have r31 : ∀ r, rv t p.2 r ≤ 31 := fun r => by
    unfold rv
    have := wt_le 1 (p.2.map fun c => nb (tb t r c)) fun x hx => by
      obtain ⟨c, _, rfl⟩ := List.mem_map.mp hx
      exact nb_le _
    rw [List.length_map] at this
    have hp : 2 ^ p.2.length ≤ 2 ^ 5 := Nat.pow_le_pow_right (by omega) h2
    omega
  unfold pot
  have := wt_le 31 (p.1.map (rv t p.2)) fun x hx => by
    obtain ⟨r, _, rfl⟩ := List.mem_map.mp hx
    exact r31 r
  rw [List.length_map] at this
  have hp : 2 ^ p.1.length ≤ 2 ^ 5 := Nat.pow_le_pow_right (by omega) h1
  omega
section
variable {t : Tb} {R C : Nat}
def envO (t : Tb) (p : List Nat × List Nat) : En := [.im (encT t), .im (.lst (p.1.map iN)), .im (.lst (p.2.map iN)), .no]
theorem turn_eq (h : Sz t R C) {p : List Nat × List Nat} (hr : ∀ a ∈ p.1, a < R) (hc : ∀ a ∈ p.2, a < C) (lr : p.1.length ≤ 1000) (lc : p.2.length ≤ 1000) :
    (once t p = p → b_orders_of_1 (envO t p) = some (.rt (.tup [encL p.1, encL p.2]))) ∧ (once t p ≠ p → ∃ E2, b_orders_of_1 (envO t p) = some (.nx E2) ∧ wipeE E2 [3] = envO t (once t p)) := by
  obtain ⟨rows, cols⟩ := p
  have e1 := sorted_once_eq h hr hc lr lc
  have e2 := eq_pair (once t (rows, cols)).1 (once t (rows, cols)).2 rows cols
  have key : b_orders_of_1 (envO t (rows, cols)) = if decide (once t (rows, cols) = (rows, cols)) then some (.rt (.tup [encL rows, encL cols])) else
      some (.nx [.im (encT t), .im (.lst ((once t (rows, cols)).1.map iN)), .im (.lst ((once t (rows, cols)).2.map iN)), .im (.tup [.lst ((once t (rows, cols)).1.map iN), .lst ((once t (rows, cols)).2.map iN)])]) := by
    unfold b_orders_of_1 envO
    dsimp only at e1 e2 ⊢
    simp only [aSeq, aSet, aCall, aCons, aVar, aNil, List.getElem?_cons_zero, List.getElem?_cons_succ, e1, List.set, aIfS, a2t, aVarM, aTup, e2, aRet, aF, dTuple, aSkip, aAsg, agT, agCons, agN, agNil]
    cases decide (once t (rows, cols) = (rows, cols)) <;> rfl
  refine ⟨fun q => ?_, fun q => ?_⟩
  · rw [key, decide_eq_true q]; rfl
  · exact ⟨_, by rw [key, decide_eq_false q]; rfl, rfl⟩
theorem wh_eq (h : Sz t R C) : ∀ (n : Nat) (p : List Nat × List Nat), (∀ a ∈ p.1, a < R) → (∀ a ∈ p.2, a < C) → p.1.length ≤ 5 → p.2.length ≤ 5 → 2003 ≤ n + pot t p →
    ∃ q : List Nat × List Nat, once t q = q ∧ q.1.Perm p.1 ∧ q.2.Perm p.2 ∧ whL (aTr (aC (.bl true))) b_orders_of_1 [3] n (envO t p) = some (.rt (.tup [encL q.1, encL q.2]))
  | 0, p, _, _, l1, l2, hn => by
    have := pot_le t p l1 l2
    omega
  | n + 1, p, hr, hc, l1, l2, hn => by
    have hp := pot_le t p l1 l2
    obtain ⟨t1, t2⟩ := turn_eq h hr hc (by omega) (by omega)
    by_cases q : once t p = p
    · refine ⟨p, q, List.Perm.refl _, List.Perm.refl _, ?_⟩
      rw [whL]
      show (match b_orders_of_1 (envO t p) with | some (.nx E2) => _ | some (.ct E2) => _ | some (.bk E2) => _ | r => r) = _
      rw [t1 q]
    · obtain ⟨E2, g1, g2⟩ := t2 q
      obtain ⟨o1, o2⟩ := once_perm t p
      have hr' : ∀ a ∈ (once t p).1, a < R := fun a ha => hr a (o1.mem_iff.mp ha)
      have hc' : ∀ a ∈ (once t p).2, a < C := fun a ha => hc a (o2.mem_iff.mp ha)
      have l1' : (once t p).1.length ≤ 5 := by rw [o1.length_eq]; exact l1
      have l2' : (once t p).2.length ≤ 5 := by rw [o2.length_eq]; exact l2
      have step : whL (aTr (aC (.bl true))) b_orders_of_1 [3] (n + 1) (envO t p) = whL (aTr (aC (.bl true))) b_orders_of_1 [3] n (envO t (once t p)) := by
        rw [whL]
        show (match b_orders_of_1 (envO t p) with | some (.nx E2) => _ | some (.ct E2) => _ | some (.bk E2) => _ | r => r) = _
        rw [g1]
        dsimp only
        rw [g2]
      rw [step]
      obtain ⟨m1, m2⟩ := once_pot t p
      by_cases e : pot t p = pot t (once t p)
      · have f := m2 e
        cases n with
        | zero => omega
        | succ n =>
          obtain ⟨u1, _⟩ := turn_eq h hr' hc' (by omega) (by omega)
          refine ⟨once t p, f, o1, o2, ?_⟩
          rw [whL]
          show (match b_orders_of_1 (envO t (once t p)) with | some (.nx E2) => _ | some (.ct E2) => _ | some (.bk E2) => _ | r => r) = _
          rw [u1 f]
      · obtain ⟨r, r1, r2, r3, r4⟩ := wh_eq h n (once t p) hr' hc' l1' l2' (by omega)
        exact ⟨r, r1, r2.trans o1, r3.trans o2, r4⟩
theorem orders_of_eq (h : Sz t R C) (hR : 1 ≤ R) (hR5 : R ≤ 5) (hC5 : C ≤ 5) : ∃ q : List Nat × List Nat, once t q = q ∧ q.1.Perm (List.range R) ∧ q.2.Perm (List.range C) ∧ F_orders_of [encT t] = some (.ok (.tup [encL q.1, encL q.2])) := by
  obtain ⟨q, q1, q2, q3, q4⟩ := wh_eq h 100000 (List.range R, List.range C) (fun a ha => List.mem_range.mp ha) (fun a ha => List.mem_range.mp ha) (by simp; omega) (by simp; omega) (by omega)
  refine ⟨q, q1, q2, q3, ?_⟩
  have ix0 : dIx (encT t) (.int 0) = some (encR (t.getD 0 [])) := h.ix (i := 0) (by omega)
  have b1 : ((R : Nat) : Int) ≤ 100000 ∧ -100000 ≤ ((R : Nat) : Int) := by omega
  have b2 : ((C : Nat) : Int) ≤ 100000 ∧ -100000 ≤ ((C : Nat) : Int) := by omega
  have rr : aCons (aLst (alRg (aF dLen (aCons (aVarM 0) aNil)))) (aCons (aLst (alRg (aF dLen (aCons (a2 dIx (aVarM 0) (aC (.int 0))) aNil)))) aNil) [.im (encT t), .no, .no, .no] = some [.lst ((List.range R).map iN), .lst ((List.range C).map iN)] := by
    simp only [aCons, aLst, alRg, aF, aVarM, aNil, List.getElem?_cons_zero, h.lenT, a2, aC, ix0, h.lenR (i := 0) (by omega)]
    unfold iN
    dsimp only
    rw [if_pos b1, if_pos b2]
    simp only [Int.toNat_natCast]
  unfold F_orders_of a_orders_of
  simp only [runF, en0, List.getElem?_cons_zero, List.getElem?_cons_succ, List.set, List.map_cons, List.map_nil, List.replicate, List.cons_append, List.nil_append, List.length_cons, List.length_nil, if_true, aSeq, aPar, rr]
  unfold aWh
  rw [show wipeE [.im (encT t), .im (.lst ((List.range R).map iN)), .im (.lst ((List.range C).map iN)), .no] [3] = envO t (List.range R, List.range C) from rfl, q4]
  rfl
/-- what orders_of hands back of a table without a ring has no corner -/
theorem free_corner (hR5 : R ≤ 5) (hC5 : C ≤ 5) {q : List Nat × List Nat} (q1 : once t q = q) (q2 : q.1.Perm (List.range R)) (q3 : q.2.Perm (List.range C)) (hn : ¬ HasRing t R C) {i1 i2 j1 j2 : Nat} (hi : i1 < i2) (hi2 : i2 < R) (hj : j1 < j2) (hj2 : j2 < C)
    (m11 : tb t (q.1.getD i1 0) (q.2.getD j1 0) = true) (m12 : tb t (q.1.getD i1 0) (q.2.getD j2 0) = true) (m21 : tb t (q.1.getD i2 0) (q.2.getD j1 0) = true) : tb t (q.1.getD i2 0) (q.2.getD j2 0) = true := by
  have l1 : q.1.length = R := by rw [q2.length_eq, List.length_range]
  have l2 : q.2.length = C := by rw [q3.length_eq, List.length_range]
  cases m22 : tb t (q.1.getD i2 0) (q.2.getD j2 0) with
  | true => rfl
  | false => exact absurd ((still_of (rows := q.1) (cols := q.2) q1).ring (q2.nodup_iff.mpr List.nodup_range) (q3.nodup_iff.mpr List.nodup_range) (fun a ha => List.mem_range.mp (q2.mem_iff.mp ha)) (fun a ha => List.mem_range.mp (q3.mem_iff.mp ha)) (by omega) hi (by omega) hj (by omega) m11 m12 m21 m22) hn
end
end Lw
set_option Elab.async false
set_option linter.all false
set_option maxRecDepth 100000
set_option maxHeartbeats 4000000
set_option autoImplicit false
namespace Lw
open PySem L2 Rf

/-! ## ordered -/
def ordT (t : Tb) (rows cols : List Nat) : Tb := rows.map fun r => cols.map fun c => tb t r c
section
variable {t : Tb} {R C : Nat} {rows cols : List Nat}
theorem ordT_sz : Sz (ordT t rows cols) rows.length cols.length := ⟨by unfold ordT; rw [List.length_map], fun r hr => by
  obtain ⟨x, _, rfl⟩ := List.mem_map.mp hr
  rw [List.length_map]⟩
theorem ordT_tb {i j : Nat} (hi : i < rows.length) (hj : j < cols.length) : tb (ordT t rows cols) i j = tb t (rows.getD i 0) (cols.getD j 0) := by
  show ((rows.map fun r => cols.map fun c => tb t r c).getD i []).getD j false = _
  simp only [List.getD_eq_getElem?_getD, List.getElem?_map, List.getElem?_eq_getElem hi, List.getElem?_eq_getElem hj, Option.map_some, Option.getD_some]
theorem ordered_eq (h : Sz t R C) (hr : ∀ a ∈ rows, a < R) (hc : ∀ a ∈ cols, a < C) (lr : rows.length ≤ 1000) (lc : cols.length ≤ 1000) : F_ordered [encT t, encL rows, encL cols] = some (.ok (encT (ordT t rows cols))) := by
  have l1 : (rows.map iN).length ≤ 100000 := by rw [List.length_map]; omega
  have l2 : (cols.map iN).length ≤ 100000 := by rw [List.length_map]; omega
  have o : aLc (aiT (aVar 1)) (agN 3) aYes e_ordered_2 [3] [.im (encT t), .im (encL rows), .im (encL cols), .no, .no] = some (rows.map fun r => encR (cols.map fun c => tb t r c)) := by
    have e1 : aiT (aVar 1) [.im (encT t), .im (encL rows), .im (encL cols), .no, .no] = some (rows.map iN) := by
      simp only [aiT, aVar, List.getElem?_cons_zero, List.getElem?_cons_succ, encL, if_pos l1]
    unfold aLc
    rw [e1]
    dsimp only
    refine compL_i rows iN _ fun r hrm => ⟨[.im (encT t), .im (encL rows), .im (encL cols), .im (iN r), .no], rfl, ?_⟩
    have i1 : aLc (aiT (aVar 2)) (agN 4) aYes e_ordered_1 [4] [.im (encT t), .im (encL rows), .im (encL cols), .im (iN r), .no] = some (cols.map fun c => bI (tb t r c)) := by
      have e2 : aiT (aVar 2) [.im (encT t), .im (encL rows), .im (encL cols), .im (iN r), .no] = some (cols.map iN) := by
        simp only [aiT, aVar, List.getElem?_cons_zero, List.getElem?_cons_succ, encL, if_pos l2]
      unfold aLc
      rw [e2]
      dsimp only
      refine compL_i cols iN _ fun c hcm => ⟨[.im (encT t), .im (encL rows), .im (encL cols), .im (iN r), .im (iN c)], rfl, ?_⟩
      unfold e_ordered_1
      simp only [a2, aVarM, List.getElem?_cons_zero, List.getElem?_cons_succ, h.ix (hr r hrm), h.cell (hr r hrm) (hc c hcm)]
    unfold e_ordered_2
    simp only [aF, aCons, aLst, i1, aNil, dTuple]
    unfold encR
    rw [List.map_map]
    rfl
  unfold F_ordered a_ordered
  simp only [runF, en0, List.getElem?_cons_zero, List.getElem?_cons_succ, List.set, List.map_cons, List.map_nil, List.replicate, List.cons_append, List.nil_append, List.length_cons, List.length_nil, if_true, aRet, aF, aCons, aLst, o, aNil, dTuple, ofOut]
  unfold encT ordT
  rw [List.map_map]
  rfl
end
/-! ## loops that add to a list -/
theorem forL_app {α : Type} {g : AG} {b : AS} {l : List Nat} (N : Nat) (en : α → D) (f : α → List D) (Ev : List D → En) (xs : List α) (h : ∀ x ∈ xs, ∀ acc, acc.length + (f x).length ≤ N → ∃ E1 E2, g (en x) (Ev acc) = some E1 ∧ b E1 = some (.nx E2) ∧ wipeE E2 l = Ev (acc ++ f x)) :
    ∀ acc, acc.length + (xs.flatMap f).length ≤ N → forL g b l (xs.map en) (Ev acc) = some (.nx (Ev (acc ++ xs.flatMap f))) := by
  induction xs with
  | nil => intro acc _; rw [List.flatMap_nil, List.append_nil]; rfl
  | cons x xs ih =>
    intro acc ha
    rw [List.flatMap_cons, List.length_append] at ha
    obtain ⟨E1, E2, e1, e2, e3⟩ := h x (by simp) acc (by omega)
    rw [List.map_cons, forL, e1]
    dsimp only
    rw [e2]
    dsimp only
    rw [e3, ih (fun y hy => h y (by simp [hy])) (acc ++ f x) (by rw [List.length_append]; omega), List.flatMap_cons, List.append_assoc]
theorem flat_le {α β : Type} (f : α → List β) (b : Nat) : ∀ xs : List α, (∀ x ∈ xs, (f x).length ≤ b) → (xs.flatMap f).length ≤ xs.length * b
  | [], _ => by simp
  | x :: xs, h => by
    rw [List.flatMap_cons, List.length_append, List.length_cons, Nat.succ_mul]
    have h1 := h x (by simp)
    have h2 := flat_le f b xs fun y hy => h y (by simp [hy])
    omega
/-! ## corners -/
def crn (t : Tb) (i l j r : Nat) : Bool := tb t i j && (tb t i r && (tb t l j && !tb t l r))
def up (i n : Nat) : List Nat := (List.range (n - (i + 1))).map fun k => i + 1 + k
theorem mem_up {i n k : Nat} : k ∈ up i n ↔ i < k ∧ k < n := by
  unfold up
  rw [List.mem_map]
  constructor
  · rintro ⟨m, hm, rfl⟩
    have := List.mem_range.mp hm
    omega
  · rintro ⟨h1, h2⟩
    exact ⟨k - (i + 1), List.mem_range.mpr (by omega), by omega⟩
theorem up_len (i n : Nat) : (up i n).length ≤ n := by unfold up; rw [List.length_map, List.length_range]; omega
theorem rg_up (i n : Nat) : rg ((i + 1 : Nat) : Int) (((n : Nat) : Int) - ((i + 1 : Nat) : Int)).toNat = (up i n).map iN := by
  unfold rg up
  rw [List.map_map, show (((n : Nat) : Int) - ((i + 1 : Nat) : Int)).toNat = n - (i + 1) by omega]
  apply List.map_congr_left
  intro k _
  rfl
def four (i l j r : Nat) : D := .tup [iN i, iN l, iN j, iN r]
def cornersA (t : Tb) (C i l j : Nat) : List (Nat × Nat × Nat × Nat) := (up j C).flatMap fun r => if crn t i l j r then [(i, l, j, r)] else []
def cornersB (t : Tb) (C i l : Nat) : List (Nat × Nat × Nat × Nat) := (List.range C).flatMap fun j => cornersA t C i l j
def cornersC (t : Tb) (R C i : Nat) : List (Nat × Nat × Nat × Nat) := (up i R).flatMap fun l => cornersB t C i l
def corners (t : Tb) (R C : Nat) : List (Nat × Nat × Nat × Nat) := (List.range R).flatMap fun i => cornersC t R C i
def f4 (p : Nat × Nat × Nat × Nat) : D := four p.1 p.2.1 p.2.2.1 p.2.2.2
theorem mem_corners {t : Tb} {R C : Nat} {p : Nat × Nat × Nat × Nat} : p ∈ corners t R C ↔ p.1 < p.2.1 ∧ p.2.1 < R ∧ p.2.2.1 < p.2.2.2 ∧ p.2.2.2 < C ∧ crn t p.1 p.2.1 p.2.2.1 p.2.2.2 = true := by
  obtain ⟨i, l, j, r⟩ := p
  unfold corners cornersC cornersB cornersA
  simp only [List.mem_flatMap, List.mem_range, mem_up]
  constructor
  · rintro ⟨i', hi', l', hl', j', hj', r', hr', hm⟩
    split at hm
    · rename_i hc
      rw [List.mem_singleton] at hm
      cases hm
      exact ⟨hl'.1, hl'.2, hr'.1, hr'.2, hc⟩
    · cases hm
  · rintro ⟨h1, h2, h3, h4, h5⟩
    refine ⟨i, by omega, l, ⟨h1, h2⟩, j, by omega, r, ⟨h3, h4⟩, ?_⟩
    rw [if_pos h5]
    simp
theorem sum_bI (a b c : Bool) : ∃ n : Nat, dAdd (bI a) (bI b) = some (.int ((nb a + nb b : Nat) : Int)) ∧ dAdd (.int ((nb a + nb b : Nat) : Int)) (bI c) = some (iN n) ∧ (n == 3) = (a && (b && c)) := by
  refine ⟨nb a + nb b + nb c, ?_, ?_, ?_⟩ <;> cases a <;> cases b <;> cases c <;> rfl
section
variable {t : Tb} {R C : Nat}
theorem flat_find {α : Type} (f : α → List (Nat × Nat × Nat × Nat)) (xs : List α) : (xs.flatMap f).head? = xs.findSome? fun x => (f x).head? := by
  induction xs with
  | nil => rfl
  | cons x xs ih =>
    rw [List.flatMap_cons, List.findSome?_cons, List.head?_append]
    cases (f x).head? with
    | none => exact ih
    | some p => rfl
theorem find_f4 {α : Type} (xs : List α) (f : α → Option (Nat × Nat × Nat × Nat)) : xs.findSome? (fun x => (f x).map f4) = (xs.findSome? f).map f4 := by
  induction xs with
  | nil => rfl
  | cons x xs ih =>
    rw [List.findSome?_cons, List.findSome?_cons]
    cases f x with
    | none => exact ih
    | some p => rfl
theorem goes_m {E : En} {b : Option Out} {o : Option D} {l : List Nat} {E0 : En} (h : b = match o with | some v => some (.rt v) | none => some (.nx E)) (he : wipeE E l = E0) : (o = none → ∃ E2, b = some (.nx E2) ∧ wipeE E2 l = E0) ∧ (∀ v, o = some v → b = some (.rt v)) :=
  ⟨fun z => ⟨E, by rw [h, z], he⟩, fun v z => by rw [h, z]⟩
theorem corner_of_eq (h : Sz t R C) (hR : 1 ≤ R) (hR5 : R ≤ 1000) (hC5 : C ≤ 1000) : F_corner_of [encT t] = some (.ok (match (corners t R C).head? with | some p => f4 p | none => .non)) := by
  have ix0 : dIx (encT t) (.int 0) = some (encR (t.getD 0 [])) := h.ix (i := 0) (by omega)
  have lr0 := h.lenR (i := 0) (by omega)
  have lt := h.lenT
  have d1 : ∀ i l j r, i < R → l < R → j < C → r < C → b_corner_of_1 [.im (encT t), .im (iN i), .im (iN l), .im (iN j), .im (iN r), .no] = match ((if crn t i l j r then [(i, l, j, r)] else [] : List (Nat × Nat × Nat × Nat)).head?).map f4 with
      | some v => some (.rt v)
      | none => some (.nx [.im (encT t), .im (iN i), .im (iN l), .im (iN j), .im (iN r), .im (iN (nb (tb t i j) + nb (tb t i r) + nb (tb t l j)))]) := fun i l j r hi hl hj hr => by
    have s1 : dAdd (bI (tb t i j)) (bI (tb t i r)) = some (iN (nb (tb t i j) + nb (tb t i r))) := by cases tb t i j <;> cases tb t i r <;> rfl
    have s2 : dAdd (iN (nb (tb t i j) + nb (tb t i r))) (bI (tb t l j)) = some (iN (nb (tb t i j) + nb (tb t i r) + nb (tb t l j))) := by cases tb t i j <;> cases tb t i r <;> cases tb t l j <;> rfl
    have s3 : dEq (iN (nb (tb t i j) + nb (tb t i r) + nb (tb t l j))) (.int 3) = some (tb t i j && (tb t i r && tb t l j)) := by cases tb t i j <;> cases tb t i r <;> cases tb t l j <;> rfl
    unfold b_corner_of_1
    simp only [aSeq, aSet, a2, aVarM, List.getElem?_cons_zero, List.getElem?_cons_succ, h.ix hi, h.ix hl, h.cell hi hj, h.cell hi hr, h.cell hl hj, h.cell hl hr, s1, s2, List.set, aIfS, tAnd', a2t, aC, s3, eq_bI0, aRet, aTup, aCons, aVar, aNil, aSkip]
    unfold crn
    cases tb t i j <;> cases tb t i r <;> cases tb t l j <;> cases tb t l r <;> rfl
  have d2 : ∀ i l j, i < R → l < R → j < C → b_corner_of_2 [.im (encT t), .im (iN i), .im (iN l), .im (iN j), .no, .no] = match ((cornersA t C i l j).head?).map f4 with
      | some v => some (.rt v)
      | none => some (.nx [.im (encT t), .im (iN i), .im (iN l), .im (iN j), .no, .no]) := fun i l j hi hl hj => by
    have sub := forL_m (g := agN 4) (b := b_corner_of_1) (l := [4, 5]) (E := [.im (encT t), .im (iN i), .im (iN l), .im (iN j), .no, .no]) iN (fun r => ((if crn t i l j r then [(i, l, j, r)] else [] : List (Nat × Nat × Nat × Nat)).head?).map f4) (up j C) fun r hr =>
      ⟨[.im (encT t), .im (iN i), .im (iN l), .im (iN j), .im (iN r), .no], rfl, goes_m (d1 i l j r hi hl hj (mem_up.mp hr).2) rfl⟩
    rw [find_f4, ← flat_find] at sub
    have rr : aiR2 (aCons (a2 dAdd (aVarM 3) (aC (.int 1))) (aCons (aF dLen (aCons (a2 dIx (aVarM 0) (aC (.int 0))) aNil)) aNil)) [.im (encT t), .im (iN i), .im (iN l), .im (iN j), .no, .no] = some ((up j C).map iN) := by
      simp only [aiR2, aCons, a2, aVarM, aC, aF, aNil, List.getElem?_cons_zero, List.getElem?_cons_succ, one_iN, add_iN, ix0, lr0]
      have hb : ((C : Nat) : Int) ≤ 10000 ∧ -10000 ≤ ((C : Nat) : Int) ∧ ((j + 1 : Nat) : Int) ≤ 10000 ∧ (-10000 : Int) ≤ ((j + 1 : Nat) : Int) := by omega
      show (if ((C : Nat) : Int) ≤ 10000 ∧ -10000 ≤ ((C : Nat) : Int) ∧ ((j + 1 : Nat) : Int) ≤ 10000 ∧ (-10000 : Int) ≤ ((j + 1 : Nat) : Int) then _ else none) = _
      rw [if_pos hb]
      exact congrArg some (rg_up j C)
    unfold b_corner_of_2 aFor
    rw [rr]
    exact sub
  have d3 : ∀ i l, i < R → l < R → b_corner_of_3 [.im (encT t), .im (iN i), .im (iN l), .no, .no, .no] = match ((cornersB t C i l).head?).map f4 with
      | some v => some (.rt v)
      | none => some (.nx [.im (encT t), .im (iN i), .im (iN l), .no, .no, .no]) := fun i l hi hl => by
    have sub := forL_m (g := agN 3) (b := b_corner_of_2) (l := [3, 4, 5]) (E := [.im (encT t), .im (iN i), .im (iN l), .no, .no, .no]) iN (fun j => ((cornersA t C i l j).head?).map f4) (List.range C) fun j hj =>
      ⟨[.im (encT t), .im (iN i), .im (iN l), .im (iN j), .no, .no], rfl, goes_m (d2 i l j hi hl (List.mem_range.mp hj)) rfl⟩
    rw [find_f4, ← flat_find] at sub
    have rr : aiR1 (aCons (aF dLen (aCons (a2 dIx (aVarM 0) (aC (.int 0))) aNil)) aNil) [.im (encT t), .im (iN i), .im (iN l), .no, .no, .no] = some ((List.range C).map iN) := by
      simp only [aiR1, aCons, a2, aVarM, aC, aF, aNil, List.getElem?_cons_zero, List.getElem?_cons_succ, ix0, lr0]
      have hb : ((C : Nat) : Int) ≤ 100000 ∧ -100000 ≤ ((C : Nat) : Int) := by omega
      show (if ((C : Nat) : Int) ≤ 100000 ∧ -100000 ≤ ((C : Nat) : Int) then some (rg 0 ((C : Nat) : Int).toNat) else none) = _
      rw [if_pos hb, Int.toNat_natCast]
      exact congrArg some (rg_iN C)
    unfold b_corner_of_3 aFor
    rw [rr]
    exact sub
  have d4 : ∀ i, i < R → b_corner_of_4 [.im (encT t), .im (iN i), .no, .no, .no, .no] = match ((cornersC t R C i).head?).map f4 with
      | some v => some (.rt v)
      | none => some (.nx [.im (encT t), .im (iN i), .no, .no, .no, .no]) := fun i hi => by
    have sub := forL_m (g := agN 2) (b := b_corner_of_3) (l := [2, 3, 4, 5]) (E := [.im (encT t), .im (iN i), .no, .no, .no, .no]) iN (fun l => ((cornersB t C i l).head?).map f4) (up i R) fun l hl =>
      ⟨[.im (encT t), .im (iN i), .im (iN l), .no, .no, .no], rfl, goes_m (d3 i l hi (mem_up.mp hl).2) rfl⟩
    rw [find_f4, ← flat_find] at sub
    have rr : aiR2 (aCons (a2 dAdd (aVarM 1) (aC (.int 1))) (aCons (aF dLen (aCons (aVarM 0) aNil)) aNil)) [.im (encT t), .im (iN i), .no, .no, .no, .no] = some ((up i R).map iN) := by
      simp only [aiR2, aCons, a2, aVarM, aC, aF, aNil, List.getElem?_cons_zero, List.getElem?_cons_succ, one_iN, add_iN, lt]
      have hb : ((R : Nat) : Int) ≤ 10000 ∧ -10000 ≤ ((R : Nat) : Int) ∧ ((i + 1 : Nat) : Int) ≤ 10000 ∧ (-10000 : Int) ≤ ((i + 1 : Nat) : Int) := by omega
      show (if ((R : Nat) : Int) ≤ 10000 ∧ -10000 ≤ ((R : Nat) : Int) ∧ ((i + 1 : Nat) : Int) ≤ 10000 ∧ (-10000 : Int) ≤ ((i + 1 : Nat) : Int) then _ else none) = _
      rw [if_pos hb]
      exact congrArg some (rg_up i R)
    unfold b_corner_of_4 aFor
    rw [rr]
    exact sub
  have main := forL_m (g := agN 1) (b := b_corner_of_4) (l := [1, 2, 3, 4, 5]) (E := [.im (encT t), .no, .no, .no, .no, .no]) iN (fun i => ((cornersC t R C i).head?).map f4) (List.range R) fun i hi =>
    ⟨[.im (encT t), .im (iN i), .no, .no, .no, .no], rfl, goes_m (d4 i (List.mem_range.mp hi)) rfl⟩
  rw [find_f4, ← flat_find] at main
  have rr : aiR1 (aCons (aF dLen (aCons (aVarM 0) aNil)) aNil) [.im (encT t), .no, .no, .no, .no, .no] = some ((List.range R).map iN) := by
    simp only [aiR1, aCons, aF, aVarM, aNil, List.getElem?_cons_zero, lt]
    have hb : ((R : Nat) : Int) ≤ 100000 ∧ -100000 ≤ ((R : Nat) : Int) := by omega
    show (if ((R : Nat) : Int) ≤ 100000 ∧ -100000 ≤ ((R : Nat) : Int) then some (rg 0 ((R : Nat) : Int).toNat) else none) = _
    rw [if_pos hb, Int.toNat_natCast]
    exact congrArg some (rg_iN R)
  rw [show ((List.range R).flatMap fun i => cornersC t R C i) = corners t R C from rfl] at main
  unfold F_corner_of a_corner_of
  cases hc : (corners t R C).head? with
  | none =>
    rw [hc] at main
    simp only [runF, en0, List.getElem?_cons_zero, List.getElem?_cons_succ, List.set, List.map_cons, List.map_nil, List.replicate, List.cons_append, List.nil_append, List.length_cons, List.length_nil, if_true, aSeq, aFor, rr, wipeE, main]
    rfl
  | some p =>
    rw [hc] at main
    simp only [runF, en0, List.getElem?_cons_zero, List.getElem?_cons_succ, List.set, List.map_cons, List.map_nil, List.replicate, List.cons_append, List.nil_append, List.length_cons, List.length_nil, if_true, aSeq, aFor, rr, wipeE, main]
    rfl
end
end Lw
set_option Elab.async false
set_option linter.all false
set_option maxRecDepth 100000
set_option maxHeartbeats 4000000
set_option autoImplicit false
namespace Lw
open PySem L2 Rf

/-! ## _law_cornered -/
def NL (o : Tb) : D := .lst (o.map fun r => D.lst (r.map bI))
section
variable {t : Tb} {R C : Nat}
theorem Sz.ixL (h : Sz t R C) {i : Nat} (hi : i < R) : dIx (NL t) (iN i) = some (.lst ((t.getD i []).map bI)) := by
  obtain ⟨r, h1, h2, _⟩ := h.at hi
  rw [h2]
  exact atI_nat (by rw [List.getElem?_map, h1]; rfl)
theorem Sz.cellL (h : Sz t R C) {i j : Nat} (hi : i < R) (hj : j < C) : dIx (.lst ((t.getD i []).map bI)) (iN j) = some (bI (tb t i j)) := by
  obtain ⟨r, h1, h2, h3⟩ := h.at hi
  have hj2 : j < r.length := by rw [h3]; exact hj
  unfold tb
  rw [h2]
  refine atI_nat ?_
  rw [List.getElem?_map, List.getElem?_eq_getElem hj2, List.getD_eq_getElem?_getD, List.getElem?_eq_getElem hj2]
  rfl
end
theorem eq_four (a b c d : Bool) : dEq (.lst [bI a, bI b, bI c, bI d]) (.lst [.int 1, .int 1, .int 1, .int 0]) = some (a && (b && (c && !d))) := by
  cases a <;> cases b <;> cases c <;> cases d <;> rfl
def evC (t : Tb) (rows cols : List Nat) (x3 x4 x7 x8 : Sl) (acc : List D) : En := [.im (encT t), .im (encL rows), .im (encL cols), x3, x4, .im (NL (ordT t rows cols)), .mu acc, x7, x8, .no]
section
variable {t : Tb} {R C : Nat} {rows cols : List Nat}
theorem cornersA_len (o : Tb) (n i l j : Nat) (hn : n ≤ 5) : (cornersA o n i l j).length ≤ 5 := by
  unfold cornersA
  have := flat_le (fun r => if crn o i l j r then [(i, l, j, r)] else []) 1 (up j n) fun r _ => by split <;> simp
  have h2 := up_len j n
  omega
theorem cornersB_len (o : Tb) (n i l : Nat) (hn : n ≤ 5) : (cornersB o n i l).length ≤ 25 := by
  unfold cornersB
  have := flat_le (fun j => cornersA o n i l j) 5 (List.range n) fun j _ => cornersA_len o n i l j hn
  rw [List.length_range] at this
  omega
theorem cornersC_len (o : Tb) (m n i : Nat) (hm : m ≤ 5) (hn : n ≤ 5) : (cornersC o m n i).length ≤ 125 := by
  unfold cornersC
  have := flat_le (fun l => cornersB o n i l) 25 (up i m) fun l _ => cornersB_len o n i l hn
  have h2 := up_len i m
  omega
theorem corners_len (o : Tb) (m n : Nat) (hm : m ≤ 5) (hn : n ≤ 5) : (corners o m n).length ≤ 625 := by
  unfold corners
  have := flat_le (fun i => cornersC o m n i) 125 (List.range m) fun i _ => cornersC_len o m n i hm hn
  rw [List.length_range] at this
  omega
theorem map_flat {α : Type} (f : α → List (Nat × Nat × Nat × Nat)) (xs : List α) : (xs.flatMap fun x => (f x).map f4) = (xs.flatMap f).map f4 := by
  rw [List.map_flatMap]
theorem cornered_eq (h : Sz t R C) (hr : ∀ a ∈ rows, a < R) (hc : ∀ a ∈ cols, a < C) (lr : rows.length ≤ 5) (lc : cols.length ≤ 5) : F__law_cornered [encT t, encL rows, encL cols] = some (.ok (.lst ((corners (ordT t rows cols) rows.length cols.length).map f4))) := by
  have l1 : (rows.map iN).length ≤ 100000 := by rw [List.length_map]; omega
  have l2 : (cols.map iN).length ≤ 100000 := by rw [List.length_map]; omega
  have ho : Sz (ordT t rows cols) rows.length cols.length := ordT_sz
  have new : aLc (aiT (aVar 1)) (agN 3) aYes e__law_cornered_2 [3] [.im (encT t), .im (encL rows), .im (encL cols), .no, .no, .no, .no, .no, .no, .no] = some ((ordT t rows cols).map fun r => D.lst (r.map bI)) := by
    have e1 : aiT (aVar 1) [.im (encT t), .im (encL rows), .im (encL cols), .no, .no, .no, .no, .no, .no, .no] = some (rows.map iN) := by
      simp only [aiT, aVar, List.getElem?_cons_zero, List.getElem?_cons_succ, encL, if_pos l1]
    unfold aLc
    rw [e1]
    dsimp only
    unfold ordT
    rw [List.map_map]
    refine compL_i rows iN _ fun r hrm => ⟨[.im (encT t), .im (encL rows), .im (encL cols), .im (iN r), .no, .no, .no, .no, .no, .no], rfl, ?_⟩
    have i1 : aLc (aiT (aVar 2)) (agN 4) aYes e__law_cornered_1 [4] [.im (encT t), .im (encL rows), .im (encL cols), .im (iN r), .no, .no, .no, .no, .no, .no] = some (cols.map fun c => bI (tb t r c)) := by
      have e2 : aiT (aVar 2) [.im (encT t), .im (encL rows), .im (encL cols), .im (iN r), .no, .no, .no, .no, .no, .no] = some (cols.map iN) := by
        simp only [aiT, aVar, List.getElem?_cons_zero, List.getElem?_cons_succ, encL, if_pos l2]
      unfold aLc
      rw [e2]
      dsimp only
      refine compL_i cols iN _ fun c hcm => ⟨[.im (encT t), .im (encL rows), .im (encL cols), .im (iN r), .im (iN c), .no, .no, .no, .no, .no], rfl, ?_⟩
      unfold e__law_cornered_1
      simp only [a2, aVarM, List.getElem?_cons_zero, List.getElem?_cons_succ, h.ix (hr r hrm), h.cell (hr r hrm) (hc c hcm)]
    unfold e__law_cornered_2
    simp only [aLst, i1]
    show some (D.lst (cols.map fun c => bI (tb t r c))) = some (D.lst ((cols.map fun c => tb t r c).map bI))
    rw [List.map_map]
    rfl
  have d1 : ∀ i l j r, i < rows.length → l < rows.length → j < cols.length → r < cols.length → ∀ acc : List D, acc.length + ((if crn (ordT t rows cols) i l j r then [(i, l, j, r)] else [] : List (Nat × Nat × Nat × Nat)).map f4).length ≤ 99999 → ∃ E2,
      b__law_cornered_1 (evC t rows cols (.im (iN i)) (.im (iN j)) (.im (iN l)) (.im (iN r)) acc) = some (.nx E2) ∧ wipeE E2 [8, 9] = evC t rows cols (.im (iN i)) (.im (iN j)) (.im (iN l)) .no (acc ++ (if crn (ordT t rows cols) i l j r then [(i, l, j, r)] else [] : List (Nat × Nat × Nat × Nat)).map f4) := fun i l j r hi hl hj hr acc ha => by
    unfold b__law_cornered_1 evC
    simp only [aSeq, aSet, aLst, aCons, aNil, a2, aVarM, List.getElem?_cons_zero, List.getElem?_cons_succ, ho.ixL hi, ho.ixL hl, ho.cellL hi hj, ho.cellL hi hr, ho.cellL hl hj, ho.cellL hl hr, List.set, aIfS, a2t, aC, eq_four]
    rw [show (tb (ordT t rows cols) i j && (tb (ordT t rows cols) i r && (tb (ordT t rows cols) l j && !tb (ordT t rows cols) l r))) = crn (ordT t rows cols) i l j r from rfl]
    cases hcr : crn (ordT t rows cols) i l j r with
    | false => exact ⟨_, rfl, by rw [if_neg (by decide), List.map_nil, List.append_nil]; rfl⟩
    | true =>
      rw [hcr] at ha
      have ha2 : acc.length < 100000 := by simp at ha; omega
      refine ⟨[.im (encT t), .im (encL rows), .im (encL cols), .im (iN i), .im (iN j), .im (NL (ordT t rows cols)), .mu (acc ++ [four i l j r]), .im (iN l), .im (iN r), .im (.lst [bI (tb (ordT t rows cols) i j), bI (tb (ordT t rows cols) i r), bI (tb (ordT t rows cols) l j), bI (tb (ordT t rows cols) l r)])], ?_, rfl⟩
      simp only [aApp, List.getElem?_cons_zero, List.getElem?_cons_succ, aTup, aCons, aVar, aNil, if_pos ha2, List.set]
      rfl
  have d2 : ∀ i l j, i < rows.length → l < rows.length → j < cols.length → ∀ acc : List D, acc.length + ((cornersA (ordT t rows cols) cols.length i l j).map f4).length ≤ 99999 → b__law_cornered_2 (evC t rows cols (.im (iN i)) (.im (iN j)) (.im (iN l)) .no acc) = some (.nx (evC t rows cols (.im (iN i)) (.im (iN j)) (.im (iN l)) .no (acc ++ (cornersA (ordT t rows cols) cols.length i l j).map f4))) := fun i l j hi hl hj acc ha => by
    have sub := forL_app (g := agN 8) (b := b__law_cornered_1) (l := [8, 9]) 99999 iN (fun r => (if crn (ordT t rows cols) i l j r then [(i, l, j, r)] else [] : List (Nat × Nat × Nat × Nat)).map f4) (evC t rows cols (.im (iN i)) (.im (iN j)) (.im (iN l)) .no) (up j cols.length) (fun r hr acc ha => by
      obtain ⟨E2, e1, e2⟩ := d1 i l j r hi hl hj (mem_up.mp hr).2 acc ha
      exact ⟨_, E2, rfl, e1, e2⟩) acc (by rw [map_flat]; exact ha)
    rw [map_flat] at sub
    have rr : aiR2 (aCons (a2 dAdd (aVarM 4) (aC (.int 1))) (aCons (aF dLen (aCons (aVarM 2) aNil)) aNil)) (evC t rows cols (.im (iN i)) (.im (iN j)) (.im (iN l)) .no acc) = some ((up j cols.length).map iN) := by
      unfold evC
      simp only [aiR2, aCons, a2, aVarM, aC, aF, aNil, List.getElem?_cons_zero, List.getElem?_cons_succ, one_iN, add_iN, len_encL]
      have hb : ((cols.length : Nat) : Int) ≤ 10000 ∧ -10000 ≤ ((cols.length : Nat) : Int) ∧ ((j + 1 : Nat) : Int) ≤ 10000 ∧ (-10000 : Int) ≤ ((j + 1 : Nat) : Int) := by omega
      show (if ((cols.length : Nat) : Int) ≤ 10000 ∧ -10000 ≤ ((cols.length : Nat) : Int) ∧ ((j + 1 : Nat) : Int) ≤ 10000 ∧ (-10000 : Int) ≤ ((j + 1 : Nat) : Int) then _ else none) = _
      rw [if_pos hb]
      exact congrArg some (rg_up j cols.length)
    unfold b__law_cornered_2 aFor
    rw [rr]
    exact sub
  have d3 : ∀ i l, i < rows.length → l < rows.length → ∀ acc : List D, acc.length + ((cornersB (ordT t rows cols) cols.length i l).map f4).length ≤ 99999 → b__law_cornered_3 (evC t rows cols (.im (iN i)) .no (.im (iN l)) .no acc) = some (.nx (evC t rows cols (.im (iN i)) .no (.im (iN l)) .no (acc ++ (cornersB (ordT t rows cols) cols.length i l).map f4))) := fun i l hi hl acc ha => by
    have sub := forL_app (g := agN 4) (b := b__law_cornered_2) (l := [4, 8, 9]) 99999 iN (fun j => (cornersA (ordT t rows cols) cols.length i l j).map f4) (evC t rows cols (.im (iN i)) .no (.im (iN l)) .no) (List.range cols.length) (fun j hj acc ha =>
      ⟨_, _, rfl, d2 i l j hi hl (List.mem_range.mp hj) acc ha, rfl⟩) acc (by rw [map_flat]; exact ha)
    rw [map_flat] at sub
    have rr : aiR1 (aCons (aF dLen (aCons (aVarM 2) aNil)) aNil) (evC t rows cols (.im (iN i)) .no (.im (iN l)) .no acc) = some ((List.range cols.length).map iN) := by
      unfold evC
      simp only [aiR1, aCons, aF, aVarM, aNil, List.getElem?_cons_zero, List.getElem?_cons_succ, len_encL]
      have hb : ((cols.length : Nat) : Int) ≤ 100000 ∧ -100000 ≤ ((cols.length : Nat) : Int) := by omega
      show (if ((cols.length : Nat) : Int) ≤ 100000 ∧ -100000 ≤ ((cols.length : Nat) : Int) then some (rg 0 ((cols.length : Nat) : Int).toNat) else none) = _
      rw [if_pos hb, Int.toNat_natCast]
      exact congrArg some (rg_iN _)
    unfold b__law_cornered_3 aFor
    rw [rr]
    exact sub
  have d4 : ∀ i, i < rows.length → ∀ acc : List D, acc.length + ((cornersC (ordT t rows cols) rows.length cols.length i).map f4).length ≤ 99999 → b__law_cornered_4 (evC t rows cols (.im (iN i)) .no .no .no acc) = some (.nx (evC t rows cols (.im (iN i)) .no .no .no (acc ++ (cornersC (ordT t rows cols) rows.length cols.length i).map f4))) := fun i hi acc ha => by
    have sub := forL_app (g := agN 7) (b := b__law_cornered_3) (l := [7, 4, 8, 9]) 99999 iN (fun l => (cornersB (ordT t rows cols) cols.length i l).map f4) (evC t rows cols (.im (iN i)) .no .no .no) (up i rows.length) (fun l hl acc ha =>
      ⟨_, _, rfl, d3 i l hi (mem_up.mp hl).2 acc ha, rfl⟩) acc (by rw [map_flat]; exact ha)
    rw [map_flat] at sub
    have rr : aiR2 (aCons (a2 dAdd (aVarM 3) (aC (.int 1))) (aCons (aF dLen (aCons (aVarM 1) aNil)) aNil)) (evC t rows cols (.im (iN i)) .no .no .no acc) = some ((up i rows.length).map iN) := by
      unfold evC
      simp only [aiR2, aCons, a2, aVarM, aC, aF, aNil, List.getElem?_cons_zero, List.getElem?_cons_succ, one_iN, add_iN, len_encL]
      have hb : ((rows.length : Nat) : Int) ≤ 10000 ∧ -10000 ≤ ((rows.length : Nat) : Int) ∧ ((i + 1 : Nat) : Int) ≤ 10000 ∧ (-10000 : Int) ≤ ((i + 1 : Nat) : Int) := by omega
      show (if ((rows.length : Nat) : Int) ≤ 10000 ∧ -10000 ≤ ((rows.length : Nat) : Int) ∧ ((i + 1 : Nat) : Int) ≤ 10000 ∧ (-10000 : Int) ≤ ((i + 1 : Nat) : Int) then _ else none) = _
      rw [if_pos hb]
      exact congrArg some (rg_up i rows.length)
    unfold b__law_cornered_4 aFor
    rw [rr]
    exact sub
  have hlen := corners_len (ordT t rows cols) rows.length cols.length lr lc
  have main := forL_app (g := agN 3) (b := b__law_cornered_4) (l := [3, 7, 4, 8, 9]) 99999 iN (fun i => (cornersC (ordT t rows cols) rows.length cols.length i).map f4) (evC t rows cols .no .no .no .no) (List.range rows.length) (fun i hi acc ha =>
      ⟨_, _, rfl, d4 i (List.mem_range.mp hi) acc ha, rfl⟩) [] (by rw [map_flat, List.length_nil, List.length_map]; show 0 + (corners (ordT t rows cols) rows.length cols.length).length ≤ 99999; omega)
  rw [map_flat, List.nil_append] at main
  have rr : aiR1 (aCons (aF dLen (aCons (aVarM 1) aNil)) aNil) [.im (encT t), .im (encL rows), .im (encL cols), .no, .no, .im (.lst ((ordT t rows cols).map fun r => D.lst (r.map bI))), .mu [], .no, .no, .no] = some ((List.range rows.length).map iN) := by
    simp only [aiR1, aCons, aF, aVarM, aNil, List.getElem?_cons_zero, List.getElem?_cons_succ, len_encL]
    have hb : ((rows.length : Nat) : Int) ≤ 100000 ∧ -100000 ≤ ((rows.length : Nat) : Int) := by omega
    show (if ((rows.length : Nat) : Int) ≤ 100000 ∧ -100000 ≤ ((rows.length : Nat) : Int) then some (rg 0 ((rows.length : Nat) : Int).toNat) else none) = _
    rw [if_pos hb, Int.toNat_natCast]
    exact congrArg some (rg_iN _)
  unfold F__law_cornered a__law_cornered
  simp only [runF, en0, List.getElem?_cons_zero, List.getElem?_cons_succ, List.set, List.map_cons, List.map_nil, List.replicate, List.cons_append, List.nil_append, List.length_cons, List.length_nil, if_true, aSeq, aSet, aLst, new, aSetM, aNil, aFor, rr]
  rw [show wipeE [.im (encT t), .im (encL rows), .im (encL cols), .no, .no, .im (.lst ((ordT t rows cols).map fun r => D.lst (r.map bI))), .mu [], .no, .no, .no] [3, 7, 4, 8, 9] = evC t rows cols .no .no .no .no [] from rfl, main]
  rfl
end
end Lw
set_option Elab.async false
set_option linter.all false
set_option maxRecDepth 100000
set_option maxHeartbeats 4000000
set_option autoImplicit false
namespace Lw
open PySem L2 Rf

/-! ## is_list_of -/
def isLB (n : Nat) : D → Bool
  | .tup ds => ds.all (inR 0 ((n : Int) - 1)) && (match intsOf ds with | some ns => decide ns.Nodup | none => false)
  | _ => false
theorem inR_iN {n x : Nat} : inR 0 ((n : Int) - 1) (iN x) = decide (x < n) := by
  show (decide ((0 : Int) ≤ (x : Nat)) && decide (((x : Nat) : Int) ≤ (n : Int) - 1)) = _
  rw [decide_eq_true (by omega : (0 : Int) ≤ (x : Nat)), Bool.true_and]
  exact decide_eq_decide.mpr (by omega)
theorem ints_of_inR {n : Nat} : ∀ {ds : List D}, ds.all (inR 0 ((n : Int) - 1)) = true → ∃ xs : List Nat, ds = xs.map iN ∧ ∀ a ∈ xs, a < n
  | [], _ => ⟨[], rfl, fun _ h => (nomatch h)⟩
  | d :: ds, h => by
    rw [List.all_cons, Bool.and_eq_true] at h
    obtain ⟨xs, e, hx⟩ := ints_of_inR h.2
    have h1 := h.1
    cases d with
    | int i =>
      have h2 : (decide ((0 : Int) ≤ i) && decide (i ≤ (n : Int) - 1)) = true := h1
      rw [Bool.and_eq_true, decide_eq_true_eq, decide_eq_true_eq] at h2
      refine ⟨i.toNat :: xs, ?_, fun a ha => ?_⟩
      · rw [List.map_cons, e]
        congr 1
        unfold iN
        congr 1
        omega
      · rcases List.mem_cons.mp ha with rfl | ha
        · omega
        · exact hx a ha
    | _ => cases h1
theorem ints_iN (xs : List Nat) : intsOf (xs.map iN) = some (xs.map fun x => ((x : Nat) : Int)) := by
  have := intsOf_map (xs.map fun x => ((x : Nat) : Int))
  rw [List.map_map] at this
  exact this
theorem nodup_cast (xs : List Nat) : (xs.map fun x => ((x : Nat) : Int)).Nodup ↔ xs.Nodup := by
  unfold List.Nodup
  rw [List.pairwise_map]
  constructor
  · exact fun h => h.imp fun {a b} q e => q (by rw [e])
  · exact fun h => h.imp fun {a b} q e => q (by omega)
theorem isLB_encL (n : Nat) (xs : List Nat) : isLB n (encL xs) = (decide (∀ a ∈ xs, a < n) && decide xs.Nodup) := by
  show ((xs.map iN).all (inR 0 ((n : Int) - 1)) && (match intsOf (xs.map iN) with | some ns => decide ns.Nodup | none => false)) = _
  rw [ints_iN]
  dsimp only
  congr 1
  · rw [Bool.eq_iff_iff, List.all_eq_true, decide_eq_true_eq]
    constructor
    · intro h a ha
      have := h (iN a) (List.mem_map_of_mem ha)
      rw [inR_iN, decide_eq_true_eq] at this
      exact this
    · intro h d hd
      obtain ⟨a, ha, rfl⟩ := List.mem_map.mp hd
      rw [inR_iN, decide_eq_true_eq]
      exact h a ha
  · exact decide_eq_decide.mpr (nodup_cast xs)
theorem isLB_true {n : Nat} {d : D} (h : isLB n d = true) : ∃ xs : List Nat, d = encL xs ∧ xs.Nodup ∧ ∀ a ∈ xs, a < n := by
  cases d with
  | tup ds =>
    have h2 : (ds.all (inR 0 ((n : Int) - 1)) && (match intsOf ds with | some ns => decide ns.Nodup | none => false)) = true := h
    rw [Bool.and_eq_true] at h2
    obtain ⟨xs, rfl, hx⟩ := ints_of_inR h2.1
    refine ⟨xs, rfl, ?_, hx⟩
    have := h2.2
    rw [ints_iN] at this
    exact (nodup_cast xs).mp (of_decide_eq_true this)
  | _ => cases h
def smallT : D → Bool
  | .tup ds => decide (ds.length ≤ 60)
  | _ => true
theorem sub1 (n : Nat) : dSub (iN n) (.int 1) = some (.int ((n : Int) - 1)) := rfl
theorem is_list_of_eq (n : Nat) (d : D) (hp : pl d 8 = true) (hs : smallT d = true) : F_is_list_of [d, iN n] = some (.ok (.bl (isLB n d))) := by
  unfold F_is_list_of a_is_list_of
  by_cases ht : ∃ ds, d = .tup ds
  · obtain ⟨ds, rfl⟩ := ht
    have hlen : ds.length ≤ 60 := of_decide_eq_true hs
    have hpl : pls ds 7 = true := by rw [pl] at hp; exact hp
    have e1 : aiT (aVar 0) [.im (.tup ds), .im (iN n), .no] = some ds := by
      have : ds.length ≤ 100000 := by omega
      simp only [aiT, aVar, List.getElem?_cons_zero, if_pos this]
    have lc : aLc (aiT (aVar 0)) (agN 2) t_is_list_of_1 e_is_list_of_1 [2] [.im (.tup ds), .im (iN n), .no] = some (ds.filter fun x => !inR 0 ((n : Int) - 1) x) := by
      unfold aLc
      rw [e1]
      dsimp only
      have := compL_f (ag := agN 2) (t := t_is_list_of_1) (f := e_is_list_of_1) (E := wipeE [.im (.tup ds), .im (iN n), .no] [2]) ds id (fun x => !inR 0 ((n : Int) - 1) x) id fun x hx => ⟨[.im (.tup ds), .im (iN n), .im x], rfl, by
        have := in_range_eq (x := x) 0 ((n : Int) - 1) (pls_mem hpl hx)
        unfold t_is_list_of_1
        simp only [tNot', aTr, aCall, aCons, aVar, aC, a2, aVarM, aNil, List.getElem?_cons_zero, List.getElem?_cons_succ, sub1, this, tru], fun _ => rfl⟩
      rw [List.map_id, List.map_id] at this
      exact this
    have isT : aIsi "tuple" (aVarM 0) [.im (.tup ds), .im (iN n), .no] = some (.bl true) := rfl
    cases hall : ds.all (inR 0 ((n : Int) - 1)) with
    | false =>
      have hne : (ds.filter fun x => !inR 0 ((n : Int) - 1) x).isEmpty = false := by rw [filt_empty]; exact hall
      have htr : tru (.lst (ds.filter fun x => !inR 0 ((n : Int) - 1) x)) = some true := by
        cases z : ds.filter fun x => !inR 0 ((n : Int) - 1) x with
        | nil => rw [z] at hne; cases hne
        | cons y ys => rfl
      have hB : isLB n (.tup ds) = false := by
        show (ds.all (inR 0 ((n : Int) - 1)) && _) = false
        rw [hall]; rfl
      rw [hB]
      simp only [runF, en0, List.getElem?_cons_zero, List.getElem?_cons_succ, List.set, List.map_cons, List.map_nil, List.replicate, List.cons_append, List.nil_append, List.length_cons, List.length_nil, if_true, aSeq, aIfS, tOr', tNot', aTr, isT, tru, Bool.not_true, aLst, lc, hne, Bool.not_false, aRet, aC]
      rfl
    | true =>
      have hem : (ds.filter fun x => !inR 0 ((n : Int) - 1) x) = [] := by
        have := filt_empty ds (inR 0 ((n : Int) - 1))
        rw [hall] at this
        exact List.isEmpty_iff.mp this
      obtain ⟨xs, rfl, hx⟩ := ints_of_inR hall
      have hB : isLB n (.tup (xs.map iN)) = decide xs.Nodup := by
        have := isLB_encL n xs
        rw [decide_eq_true hx, Bool.true_and] at this
        exact this
      have ls : aLenSet (aVarM 0) [.im (.tup (xs.map iN)), .im (iN n), .no] = some (iN (undup (xs.map fun x => ((x : Nat) : Int))).length) := by
        have : (xs.map fun x => ((x : Nat) : Int)).length ≤ 1000 := by
          rw [List.length_map] at hlen ⊢
          omega
        simp only [aLenSet, aVarM, List.getElem?_cons_zero, ints_iN, if_pos this]
        rfl
      have ln : dLen [.tup (xs.map iN)] = some (iN xs.length) := len_encL xs
      have he : ((undup (xs.map fun x => ((x : Nat) : Int))).length == xs.length) = decide xs.Nodup := by
        rw [Bool.eq_iff_iff, beq_iff_eq, decide_eq_true_eq, ← nodup_cast xs]
        constructor
        · intro q; exact nodup_of_len (by rw [q, List.length_map])
        · intro q; rw [undup_of_nodup q, List.length_map]
      rw [hB]
      simp only [runF, en0, List.getElem?_cons_zero, List.getElem?_cons_succ, List.set, List.map_cons, List.map_nil, List.replicate, List.cons_append, List.nil_append, List.length_cons, List.length_nil, if_true, aSeq, aIfS, tOr', tNot', aTr, isT, tru, Bool.not_true, aLst, lc, hem, List.isEmpty_nil, aSkip, aRet, a2, bv, ls, aF, aCons, aVarM, aNil, ln, eq_iN, he, ofOut]
  · have hB : isLB n d = false := by
      cases d with
      | tup ds => exact absurd ⟨ds, rfl⟩ ht
      | _ => rfl
    have isT : aIsi "tuple" (aVarM 0) [.im d, .im (iN n), .no] = some (.bl false) := by
      cases d with
      | tup ds => exact absurd ⟨ds, rfl⟩ ht
      | scr _ => rw [pl] at hp; cases hp
      | obj _ => rw [pl] at hp; cases hp
      | _ => rfl
    rw [hB]
    simp only [runF, en0, List.getElem?_cons_zero, List.getElem?_cons_succ, List.set, List.map_cons, List.map_nil, List.replicate, List.cons_append, List.nil_append, List.length_cons, List.length_nil, if_true, aSeq, aIfS, tOr', tNot', aTr, isT, tru, Bool.not_false, aRet, aC]
    rfl
end Lw
set_option Elab.async false
set_option linter.all false
set_option maxRecDepth 100000
set_option maxHeartbeats 4000000
set_option autoImplicit false
namespace Lw
open PySem L2 Rf

section
variable {t : Tb} {R C : Nat}
theorem isTab_enc (h : Sz t R C) (hR : 1 ≤ R) (hR5 : R ≤ 5) (hC : 1 ≤ C) (hC5 : C ≤ 5) : isTab (encT t) = true := by
  cases t with
  | nil => have := h.len; simp at this; omega
  | cons r ts =>
    have hl := h.len
    rw [List.length_cons] at hl
    have hr0 := h.row r (by simp)
    have e : encT (r :: ts) = .tup (.tup (r.map bI) :: ts.map encR) := rfl
    rw [e, isTab_tup, Bool.and_eq_true]
    refine ⟨by rw [List.length_map]; simp; omega, ?_⟩
    rw [List.all_eq_true]
    intro d hd
    have hd2 : d ∈ (r :: ts).map encR := hd
    obtain ⟨x, hx, rfl⟩ := List.mem_map.mp hd2
    have hx0 := h.row x hx
    have e2 : encR x = .tup (x.map bI) := rfl
    rw [e2, rowOk_tup]
    simp only [List.length_map, Bool.and_eq_true, decide_eq_true_eq]
    refine ⟨⟨⟨by omega, by omega⟩, by omega⟩, ?_⟩
    rw [List.all_eq_true]
    intro b hb
    obtain ⟨c, _, rfl⟩ := List.mem_map.mp hb
    cases c <;> rfl
theorem check_enc (h : Sz t R C) (hR : 1 ≤ R) (hR5 : R ≤ 5) (hC : 1 ≤ C) (hC5 : C ≤ 5) : F_check_table [encT t] = some (.ok .non) := check_ok _ (plT t 6) (isTab_enc h hR hR5 hC hC5)
theorem has_ring_eq (h : Sz t R C) (hR : 1 ≤ R) (hR5 : R ≤ 5) (hC : 1 ≤ C) (hC5 : C ≤ 5) : F_has_ring [encT t] = some (.ok (.bl (ringOf t R C).isSome)) := by
  have e1 := check_enc h hR hR5 hC hC5
  have e2 := ring_of_eq h hR hR5 hC hC5
  unfold F_has_ring a_has_ring
  simp only [runF, en0, List.getElem?_cons_zero, List.getElem?_cons_succ, List.set, List.map_cons, List.map_nil, List.replicate, List.cons_append, List.nil_append, List.length_cons, List.length_nil, if_true, aSeq, aDropX, aCallX, aCons, aVar, aNil, e1, aRet, a2, aCall, e2, aC, bv]
  cases ringOf t R C <;> rfl
theorem check_free_eq (h : Sz t R C) (hR : 1 ≤ R) (hR5 : R ≤ 5) (hC : 1 ≤ C) (hC5 : C ≤ 5) : F_check_free [encT t] = some (if (ringOf t R C).isSome then .er (.own "HasRing") else .ok .non) := by
  have e1 := check_enc h hR hR5 hC hC5
  have e2 := ring_of_eq h hR hR5 hC hC5
  unfold F_check_free a_check_free
  simp only [runF, en0, List.getElem?_cons_zero, List.getElem?_cons_succ, List.set, List.map_cons, List.map_nil, List.replicate, List.cons_append, List.nil_append, List.length_cons, List.length_nil, if_true, aSeq, aDropX, aCallX, aCons, aVar, aNil, e1, aIfS, a2t, aCall, e2, aC, aRaise, aSkip]
  cases ringOf t R C <;> rfl
theorem ring_eq (h : Sz t R C) (hR : 1 ≤ R) (hR5 : R ≤ 5) (hC : 1 ≤ C) (hC5 : C ≤ 5) : F_ring [encT t] = some (match ringOf t R C with | some p => .ok (.tup [encL p.1, encL p.2]) | none => .er (.own "NoRing")) := by
  have e1 := check_enc h hR hR5 hC hC5
  have e2 := ring_of_eq h hR hR5 hC hC5
  unfold F_ring a_ring
  simp only [runF, en0, List.getElem?_cons_zero, List.getElem?_cons_succ, List.set, List.map_cons, List.map_nil, List.replicate, List.cons_append, List.nil_append, List.length_cons, List.length_nil, if_true, aSeq, aDropX, aCallX, aCons, aVar, aNil, e1, aSet, aCall, e2, aIfS, a2t, aVarM, aC, aRaise, aSkip, aRet]
  cases ringOf t R C <;> rfl
theorem orders_eq (h : Sz t R C) (hR : 1 ≤ R) (hR5 : R ≤ 5) (hC : 1 ≤ C) (hC5 : C ≤ 5) : ∃ q : List Nat × List Nat, once t q = q ∧ q.1.Perm (List.range R) ∧ q.2.Perm (List.range C) ∧ F_orders [encT t] = some (if (ringOf t R C).isSome then .er (.own "HasRing") else .ok (.tup [encL q.1, encL q.2])) := by
  obtain ⟨q, q1, q2, q3, q4⟩ := orders_of_eq h hR hR5 hC5
  refine ⟨q, q1, q2, q3, ?_⟩
  have e1 := check_free_eq h hR hR5 hC hC5
  unfold F_orders a_orders
  cases z : ringOf t R C with
  | none =>
    rw [z] at e1
    have e2 : F_check_free [encT t] = some (.ok .non) := e1
    simp only [runF, en0, List.getElem?_cons_zero, List.getElem?_cons_succ, List.set, List.map_cons, List.map_nil, List.replicate, List.cons_append, List.nil_append, List.length_cons, List.length_nil, if_true, aSeq, aDropX, aCallX, aCons, aVar, aNil, e2, aRet, aCall, q4]
    rfl
  | some p =>
    rw [z] at e1
    have e2 : F_check_free [encT t] = some (.er (.own "HasRing")) := e1
    simp only [runF, en0, List.getElem?_cons_zero, List.getElem?_cons_succ, List.set, List.map_cons, List.map_nil, List.replicate, List.cons_append, List.nil_append, List.length_cons, List.length_nil, if_true, aSeq, aDropX, aCallX, aCons, aVar, aNil, e2]
    rfl
theorem law_ring0_eq (h : Sz t R C) (hR : 1 ≤ R) (hR5 : R ≤ 5) (hC : 1 ≤ C) (hC5 : C ≤ 5) : F__law_ring [.int 0, encT t] = some (.ok (match ringOf t R C with | some p => .tup [encL p.1, encL p.2] | none => .str "none")) := by
  have e1 := ring_eq h hR hR5 hC hC5
  have hd : hd__law_ring (.own "NoRing") = some (some (.str "none")) := by rfl
  unfold F__law_ring a__law_ring
  have z : dEq (.int 0) (.int 0) = some true := rfl
  simp only [runF, en0, List.getElem?_cons_zero, List.getElem?_cons_succ, List.set, List.map_cons, List.map_nil, List.replicate, List.cons_append, List.nil_append, List.length_cons, List.length_nil, if_true, aTry, aRetX, xIf, a2t, aVarM, aC, z, aCallX, aCons, aVar, aNil, e1]
  cases ringOf t R C with
  | some p => rfl
  | none =>
    dsimp only
    rw [hd]
    rfl
theorem law_ring1_eq (h : Sz t R C) (hR : 1 ≤ R) (hR5 : R ≤ 5) (hC : 1 ≤ C) (hC5 : C ≤ 5) : ∃ q : List Nat × List Nat, once t q = q ∧ q.1.Perm (List.range R) ∧ q.2.Perm (List.range C) ∧ F__law_ring [.int 1, encT t] = some (.ok (if (ringOf t R C).isSome then .str "ring" else .tup [encL q.1, encL q.2])) := by
  obtain ⟨q, q1, q2, q3, q4⟩ := orders_eq h hR hR5 hC hC5
  refine ⟨q, q1, q2, q3, ?_⟩
  have hd : hd__law_ring (.own "HasRing") = some (some (.str "ring")) := by rfl
  unfold F__law_ring a__law_ring
  have z : dEq (.int 1) (.int 0) = some false := rfl
  simp only [runF, en0, List.getElem?_cons_zero, List.getElem?_cons_succ, List.set, List.map_cons, List.map_nil, List.replicate, List.cons_append, List.nil_append, List.length_cons, List.length_nil, if_true, aTry, aRetX, xIf, a2t, aVarM, aC, z, aCallX, aCons, aVar, aNil, q4]
  cases ringOf t R C with
  | none => rfl
  | some p =>
    simp only [Option.isSome_some, if_true]
    rw [hd]
    rfl
/-! ## is_ring and are_orders -/
theorem smallT_encL {xs : List Nat} (h : xs.length ≤ 60) : smallT (encL xs) = true := by
  show decide ((xs.map iN).length ≤ 60) = true
  rw [List.length_map]
  exact decide_eq_true h
def okL (n : Nat) (xs : List Nat) : Prop := xs.Nodup ∧ ∀ a ∈ xs, a < n
theorem is_list_pos {n : Nat} {xs : List Nat} (h : okL n xs) (hl : xs.length ≤ 60) : F_is_list_of [encL xs, iN n] = some (.ok (.bl true)) := by
  rw [is_list_of_eq n _ (pl_encL xs 7) (smallT_encL hl), isLB_encL, decide_eq_true h.2, decide_eq_true h.1]
  rfl
theorem ge_iN (a : Nat) : dGe (iN a) (.int 3) = some (decide (3 ≤ a)) := by
  show some (decide ((3 : Int) ≤ (a : Nat))) = _
  congr 1
  exact decide_eq_decide.mpr (by omega)
theorem is_ring_pos (h : Sz t R C) (hR : 1 ≤ R) (hR5 : R ≤ 5) (hC : 1 ≤ C) (hC5 : C ≤ 5) {rows cols : List Nat} (gr : okL R rows) (gc : okL C cols) :
    F_is_ring [encT t, .tup [encL rows, encL cols]] = some (.ok (.bl ((rows.length == cols.length && decide (3 ≤ cols.length)) && ringOn t rows cols))) := by
  have l1 : rows.length ≤ 5 := Nat.le_trans (nodup_le R rows gr.1 gr.2) hR5
  have l2 : cols.length ≤ 5 := Nat.le_trans (nodup_le C cols gc.1 gc.2) hC5
  have e1 := check_enc h hR hR5 hC hC5
  have e2 := is_list_pos gr (by omega)
  have e3 := is_list_pos gc (by omega)
  have e4 := rings_on_eq h gr.2 gc.2 (by omega) (by omega)
  have ix0 : dIx (encT t) (.int 0) = some (encR (t.getD 0 [])) := h.ix (i := 0) (by omega)
  have lr0 := h.lenR (i := 0) (by omega)
  have lt := h.lenT
  have v0 : dIx (.tup [encL rows, encL cols]) (.int 0) = some (encL rows) := rfl
  have v1 : dIx (.tup [encL rows, encL cols]) (.int 1) = some (encL cols) := rfl
  have vl2 : dLen [.tup [encL rows, encL cols]] = some (.int 2) := rfl
  have isT : aIsi "tuple" (aVarM 1) [.im (encT t), .im (.tup [encL rows, encL cols])] = some (.bl true) := rfl
  have ne2 : dNe (.int 2) (.int 2) = some false := rfl
  unfold F_is_ring a_is_ring
  simp only [runF, en0, List.getElem?_cons_zero, List.getElem?_cons_succ, List.set, List.map_cons, List.map_nil, List.replicate, List.cons_append, List.nil_append, List.length_cons, List.length_nil, if_true, aSeq, aDropX, aCallX, aCons, aVar, aNil, e1, aIfS, tOr', tNot', aTr, isT, tru, Bool.not_true, a2t, aF, aVarM, vl2, aC, ne2, aSkip, aCall, a2, v0, v1, lt, ix0, lr0, e2, e3, aRet, vAnd, aB, aCh, len_encL, eq_iN, ge_iN, e4]
  cases rows.length == cols.length <;> cases decide (3 ≤ cols.length) <;> cases ringOn t rows cols <;> rfl
theorem are_orders_pos (h : Sz t R C) (hR : 1 ≤ R) (hR5 : R ≤ 5) (hC : 1 ≤ C) (hC5 : C ≤ 5) {rows cols : List Nat} (gr : okL R rows) (gc : okL C cols) :
    F_are_orders [encT t, .tup [encL rows, encL cols]] = some (.ok (.bl ((rows.length == R && cols.length == C) && (corners (ordT t rows cols) rows.length cols.length).isEmpty))) := by
  have l1 : rows.length ≤ 5 := Nat.le_trans (nodup_le R rows gr.1 gr.2) hR5
  have l2 : cols.length ≤ 5 := Nat.le_trans (nodup_le C cols gc.1 gc.2) hC5
  have e1 := check_enc h hR hR5 hC hC5
  have e2 := is_list_pos gr (by omega)
  have e3 := is_list_pos gc (by omega)
  have e4 := ordered_eq h gr.2 gc.2 (by omega) (by omega)
  have ix0 : dIx (encT t) (.int 0) = some (encR (t.getD 0 [])) := h.ix (i := 0) (by omega)
  have lr0 := h.lenR (i := 0) (by omega)
  have lt := h.lenT
  have v0 : dIx (.tup [encL rows, encL cols]) (.int 0) = some (encL rows) := rfl
  have v1 : dIx (.tup [encL rows, encL cols]) (.int 1) = some (encL cols) := rfl
  have vl2 : dLen [.tup [encL rows, encL cols]] = some (.int 2) := rfl
  have isT : aIsi "tuple" (aVarM 1) [.im (encT t), .im (.tup [encL rows, encL cols])] = some (.bl true) := rfl
  have ne2 : dNe (.int 2) (.int 2) = some false := rfl
  have neN : ∀ a b : Nat, dNe (iN a) (iN b) = some (!(a == b)) := fun a b => by
    show some (!(((a : Nat) : Int) == ((b : Nat) : Int))) = _
    congr 2
    rw [Bool.eq_iff_iff, beq_iff_eq, beq_iff_eq]
    omega
  unfold F_are_orders a_are_orders
  cases hr : rows.length == R with
  | false =>
    simp only [runF, en0, List.getElem?_cons_zero, List.getElem?_cons_succ, List.set, List.map_cons, List.map_nil, List.replicate, List.cons_append, List.nil_append, List.length_cons, List.length_nil, if_true, aSeq, aDropX, aCallX, aCons, aVar, aNil, e1, aIfS, tOr', tNot', aTr, isT, tru, Bool.not_true, a2t, aF, aVarM, vl2, aC, ne2, aSkip, aCall, a2, v0, v1, lt, ix0, lr0, e2, e3, len_encL, neN, hr, Bool.not_false, aRet]
    rfl
  | true =>
    cases hc : cols.length == C with
    | false =>
      simp only [runF, en0, List.getElem?_cons_zero, List.getElem?_cons_succ, List.set, List.map_cons, List.map_nil, List.replicate, List.cons_append, List.nil_append, List.length_cons, List.length_nil, if_true, aSeq, aDropX, aCallX, aCons, aVar, aNil, e1, aIfS, tOr', tNot', aTr, isT, tru, Bool.not_true, a2t, aF, aVarM, vl2, aC, ne2, aSkip, aCall, a2, v0, v1, lt, ix0, lr0, e2, e3, len_encL, neN, hr, hc, Bool.not_false, aRet]
      rfl
    | true =>
      have hrR : rows.length = R := eq_of_beq hr
      have e5 := corner_of_eq (t := ordT t rows cols) ordT_sz (by omega) (by omega) (by omega)
      simp only [runF, en0, List.getElem?_cons_zero, List.getElem?_cons_succ, List.set, List.map_cons, List.map_nil, List.replicate, List.cons_append, List.nil_append, List.length_cons, List.length_nil, if_true, aSeq, aDropX, aCallX, aCons, aVar, aNil, e1, aIfS, tOr', tNot', aTr, isT, tru, Bool.not_true, a2t, aF, aVarM, vl2, aC, ne2, aSkip, aCall, a2, v0, v1, lt, ix0, lr0, e2, e3, len_encL, neN, hr, hc, aRet, e4, e5, bv]
      cases corners (ordT t rows cols) rows.length cols.length <;> rfl
end
end Lw
set_option Elab.async false
set_option linter.all false
set_option maxRecDepth 100000
set_option maxHeartbeats 4000000
set_option autoImplicit false
namespace Lw
open PySem L2 Rf PySem.W PyProof.Rows

/-! ## sorted lists of places -/
theorem dle_iN (a b : Nat) : dle (iN a) (iN b) = decide (a ≤ b) := by
  have : dle (iN a) (iN b) = !dlt (iN b) (iN a) := rfl
  rw [this, dlt_iN, Bool.eq_iff_iff]
  simp
theorem sort_encL (xs : List Nat) : lSortP [encL xs] = some ((xs.mergeSort fun a b => decide (a ≤ b)).map iN) := by
  have hs : srtOk (xs.map iN) = true := by
    unfold srtOk
    rw [Bool.or_eq_true]
    right
    rw [List.all_eq_true]
    intro d hd
    obtain ⟨a, _, rfl⟩ := List.mem_map.mp hd
    rfl
  show (if kin (xs.map iN) && srtOk (xs.map iN) then some (sortP (xs.map iN)) else none) = _
  rw [kin_iN, hs]
  unfold sortP
  rw [List.map_mergeSort (s := dle) fun a _ b _ => (dle_iN a b).symm]
  rfl
theorem sort_perm {xs : List Nat} {n : Nat} (h : xs.Perm (List.range n)) : xs.mergeSort (fun a b => decide (a ≤ b)) = List.range n := by
  refine List.Perm.eq_of_pairwise (le := (· ≤ ·)) (fun a b _ _ h h' => Nat.le_antisymm h h') ?_ ?_ ((List.mergeSort_perm _ _).trans h)
  · have := List.pairwise_mergeSort (le := fun a b : Nat => decide (a ≤ b)) (fun a b c h1 h2 => by simp only [decide_eq_true_eq] at h1 h2 ⊢; omega) (fun a b => by simp only [Bool.or_eq_true, decide_eq_true_eq]; omega) xs
    exact this.imp fun {a b} z => of_decide_eq_true z
  · exact (List.pairwise_lt_range).imp fun {a b} h => Nat.le_of_lt h
theorem ne_lists (xs ys : List Nat) : dNe (.lst (xs.map iN)) (.lst (ys.map iN)) = some (!decide (xs = ys)) := by
  unfold dNe
  have p : ∀ xs : List Nat, pl (.lst (xs.map iN)) 8 = true := fun xs => by rw [pl]; exact pls_iN xs 7
  rw [p, p]
  show some (!deq (.lst (xs.map iN)) (.lst (ys.map iN))) = _
  rw [deq, deqs_iN]
theorem neN (a b : Nat) : dNe (iN a) (iN b) = some (!(a == b)) := by
  show some (!(((a : Nat) : Int) == ((b : Nat) : Int))) = _
  congr 2
  rw [Bool.eq_iff_iff, beq_iff_eq, beq_iff_eq]
  omega
theorem len_sortset {E : En} {i : Nat} {xs : List Nat} (h : E[i]? = some (.im (encL xs))) (nd : xs.Nodup) (hl : xs.length ≤ 60) : aF dLen (aCons (aLst (alSortSet (aVarM i))) aNil) E = some (iN xs.length) := by
  have h60 : (xs.map fun x => ((x : Nat) : Int)).length ≤ 60 := by rw [List.length_map]; exact hl
  have e : alSortSet (aVarM i) E = some ((Rf.sortI (xs.map fun x => ((x : Nat) : Int))).map D.int) := by
    unfold alSortSet aVarM
    rw [h]
    simp only [encL, ints_iN, if_pos h60, undup_of_nodup ((nodup_cast xs).mpr nd)]
  simp only [aF, aCons, aLst, e, aNil]
  show some (D.int (((Rf.sortI (xs.map fun x => ((x : Nat) : Int))).map D.int).length : Nat)) = _
  rw [List.length_map, (Rf.sortI_perm _).length_eq, List.length_map]
  rfl
theorem corners_nil {t : Tb} {R C : Nat} (hR5 : R ≤ 5) (hC5 : C ≤ 5) {q : List Nat × List Nat} (q1 : once t q = q) (q2 : q.1.Perm (List.range R)) (q3 : q.2.Perm (List.range C)) (hn : ¬ HasRing t R C) : corners (ordT t q.1 q.2) q.1.length q.2.length = [] := by
  have l1 : q.1.length = R := by rw [q2.length_eq, List.length_range]
  have l2 : q.2.length = C := by rw [q3.length_eq, List.length_range]
  rw [List.eq_nil_iff_forall_not_mem]
  rintro ⟨i, l, j, r⟩ hm
  obtain ⟨h1, h2, h3, h4, h5⟩ := mem_corners.mp hm
  dsimp only at h1 h2 h3 h4 h5
  unfold crn at h5
  rw [ordT_tb (by omega) (by omega), ordT_tb (by omega) h4, ordT_tb h2 (by omega), ordT_tb h2 h4] at h5
  simp only [Bool.and_eq_true, Bool.not_eq_true'] at h5
  have := free_corner hR5 hC5 q1 q2 q3 hn h1 (by omega) h3 (by omega) h5.1 h5.2.1 h5.2.2.1
  rw [this] at h5
  exact absurd h5.2.2.2 (by decide)
theorem okL_perm {xs : List Nat} {n : Nat} (h : xs.Perm (List.range n)) : okL n xs := ⟨h.nodup_iff.mpr List.nodup_range, fun a ha => List.mem_range.mp (h.mem_iff.mp ha)⟩
theorem ringed_bool {t : Tb} {R C : Nat} (h5 : R ≤ 5) : ringedB t R C = (ringOf t R C).isSome := by
  rw [Bool.eq_iff_iff, ringedB_iff h5, ringOf_iff h5]
end Lw
set_option Elab.async false
set_option linter.all false
set_option maxRecDepth 100000
set_option maxHeartbeats 4000000
namespace Lw
open PySem L2 Rf
def e_exchanged_1 : AE := (a2 dIx (aVarM 2) (aVarM 1))
def e_exchanged_2 : AE := (aF dTuple (aCons (aLst (aLc (aiT (aVar 0)) (agN 2) aYes e_exchanged_1 [2])) aNil))
def a_exchanged : AS := (aSeq (aDropX (aCallX F_check_table (aCons (aVar 0) aNil)))
  (aRet (aF dTuple (aCons (aLst (aLc (aiR1 (aCons (aF dLen (aCons (a2 dIx (aVarM 0) (aC (.int 0))) aNil)) aNil)) (agN 1) aYes e_exchanged_2 [1])) aNil))))
def F_exchanged : Fn := runF 2 a_exchanged
end Lw
set_option Elab.async false
set_option linter.all false
set_option maxRecDepth 100000
set_option maxHeartbeats 4000000
set_option autoImplicit false
namespace Lw
open PySem L2 Rf

/-! ## rings carried from one table to another -/
theorem want_rows : ∀ k, k < 6 → 3 ≤ k → ∀ i, i < k → ∀ i', i' < k → (∀ j, j < k → wantd k i j = wantd k i' j) → i = i' := by decide
theorem want_cols : ∀ k, k < 6 → 3 ≤ k → ∀ j, j < k → ∀ j', j' < k → (∀ i, i < k → wantd k i j = wantd k i j') → j = j' := by decide
theorem want_turn : ∀ k, k < 6 → 3 ≤ k → ∀ j, j < k → ∀ m, m < k → wantd k ((m + (k - 1)) % k) j = wantd k j m := by decide
theorem want_two : ∀ k, k < 6 → 3 ≤ k → ∀ i, i < k → wantd k i i = true ∧ wantd k i ((i + 1) % k) = true ∧ i ≠ (i + 1) % k ∧ (i + 1) % k < k := by decide
theorem getD_mapN {xs : List Nat} (f : Nat → Nat) {i : Nat} (hi : i < xs.length) : (xs.map f).getD i 0 = f (xs.getD i 0) := by
  rw [List.getD_eq_getElem?_getD, List.getD_eq_getElem?_getD, List.getElem?_map, List.getElem?_eq_getElem hi]
  rfl
theorem getD_mem {xs : List Nat} {i : Nat} (hi : i < xs.length) : xs.getD i 0 ∈ xs := by
  rw [List.getD_eq_getElem?_getD, List.getElem?_eq_getElem hi]
  exact List.getElem_mem hi
theorem nodup_of_at {xs : List Nat} (h : ∀ i, i < xs.length → ∀ j, j < xs.length → xs.getD i 0 = xs.getD j 0 → i = j) : xs.Nodup := by
  unfold List.Nodup
  rw [List.pairwise_iff_getElem]
  intro i j hi hj hij e
  have := h i hi j hj (by
    rw [List.getD_eq_getElem?_getD, List.getD_eq_getElem?_getD, List.getElem?_eq_getElem hi, List.getElem?_eq_getElem hj]
    exact congrArg (fun x => (some x).getD 0) e)
  omega
theorem IsRing.map {t t' : Tb} {R C R' C' : Nat} {rows cols : List Nat} (h : IsRing t' R' C' rows cols) (h5 : rows.length ≤ 5) (φ ψ : Nat → Nat) (hφ : ∀ r ∈ rows, φ r < R) (hψ : ∀ c ∈ cols, ψ c < C) (e : ∀ r ∈ rows, ∀ c ∈ cols, tb t' r c = tb t (φ r) (ψ c)) :
    IsRing t R C (rows.map φ) (cols.map ψ) := by
  have hl := h.len
  have h3 := h.three
  have hon := ringOn_iff.mp h.on
  have on2 : ∀ i, i < rows.length → ∀ j, j < cols.length → tb t ((rows.map φ).getD i 0) ((cols.map ψ).getD j 0) = wantd rows.length i j := fun i hi j hj => by
    rw [getD_mapN φ hi, getD_mapN ψ hj, ← e _ (getD_mem hi) _ (getD_mem hj)]
    exact hon i hi j hj
  refine ⟨by rw [List.length_map]; exact h3, by rw [List.length_map, List.length_map]; exact hl, ?_, ?_, ?_, ?_, ?_⟩
  · refine nodup_of_at fun i hi i' hi' q => ?_
    rw [List.length_map] at hi hi'
    refine want_rows rows.length (by omega) h3 i hi i' hi' fun j hj => ?_
    rw [← on2 i hi j (by omega), ← on2 i' hi' j (by omega), q]
  · refine nodup_of_at fun j hj j' hj' q => ?_
    rw [List.length_map] at hj hj'
    refine want_cols rows.length (by omega) h3 j (by omega) j' (by omega) fun i hi => ?_
    rw [← on2 i hi j hj, ← on2 i hi j' hj', q]
  · intro a ha
    obtain ⟨r, hr, rfl⟩ := List.mem_map.mp ha
    exact hφ r hr
  · intro a ha
    obtain ⟨c, hc, rfl⟩ := List.mem_map.mp ha
    exact hψ c hc
  · rw [ringOn_iff]
    intro i hi j hj
    rw [List.length_map] at hi hj ⊢
    exact on2 i hi j hj
/-! ## rows and columns exchanged -/
def exT (t : Tb) (C : Nat) : Tb := (List.range C).map fun c => t.map fun r => r.getD c false
section
variable {t : Tb} {R C : Nat}
theorem exT_sz (h : Sz t R C) : Sz (exT t C) C R := ⟨by unfold exT; rw [List.length_map, List.length_range], fun r hr => by
  obtain ⟨c, _, rfl⟩ := List.mem_map.mp hr
  rw [List.length_map, h.len]⟩
theorem exT_tb (h : Sz t R C) {i j : Nat} (hi : i < R) (hj : j < C) : tb (exT t C) j i = tb t i j := by
  obtain ⟨r, h1, h2, h3⟩ := h.at hi
  have hl : i < t.length := by rw [h.len]; exact hi
  have e1 : (exT t C).getD j [] = t.map fun r => r.getD j false := by
    unfold exT
    rw [List.getD_eq_getElem?_getD, List.getElem?_map, List.getElem?_range hj]
    rfl
  have hlhs : tb (exT t C) j i = ((exT t C).getD j []).getD i false := rfl
  have hrhs : tb t i j = (t.getD i []).getD j false := rfl
  rw [hlhs, hrhs, e1, h2, List.getD_eq_getElem?_getD, List.getElem?_map, h1]
  rfl
theorem IsRing.turn {t' : Tb} {rows cols : List Nat} (hr : IsRing t R C rows cols) (h5 : rows.length ≤ 5) (e : ∀ i j, i < R → j < C → tb t' j i = tb t i j) : IsRing t' C R cols (Lw.rot (rows.length - 1) rows) := by
  have hl := hr.len
  have h3 := hr.three
  have p := rot_perm (rows.length - 1) rows
  refine ⟨by omega, by rw [rot_len]; omega, hr.ndc, p.nodup_iff.mpr hr.ndr, hr.ltc, fun a ha => hr.ltr a (p.mem_iff.mp ha), ?_⟩
  rw [ringOn_iff]
  intro j hj m hm
  rw [rot_len] at hm
  rw [rot_get (by omega) hm]
  have hm2 : (m + (rows.length - 1)) % rows.length < rows.length := Nat.mod_lt _ (by omega)
  rw [e _ _ (all_lt hr.ltr hm2) (all_lt hr.ltc hj), ringOn_iff.mp hr.on _ hm2 j hj, hl]
  exact want_turn rows.length (by omega) h3 j (by omega) m hm
theorem ring_turn (h : Sz t R C) (hR : R ≤ 5) (hC : C ≤ 5) : HasRing (exT t C) C R ↔ HasRing t R C := by
  constructor
  · rintro ⟨rows, cols, hr⟩
    exact ⟨_, _, hr.turn (Nat.le_trans (nodup_le C rows hr.ndr hr.ltr) hC) fun i j hi hj => (exT_tb h hj hi).symm⟩
  · rintro ⟨rows, cols, hr⟩
    exact ⟨_, _, hr.turn (Nat.le_trans (nodup_le R rows hr.ndr hr.ltr) hR) fun i j hi hj => exT_tb h hi hj⟩
theorem exchanged_eq (h : Sz t R C) (hR : 1 ≤ R) (hR5 : R ≤ 5) (hC : 1 ≤ C) (hC5 : C ≤ 5) : F_exchanged [encT t] = some (.ok (encT (exT t C))) := by
  have e1 := check_enc h hR hR5 hC hC5
  have ix0 : dIx (encT t) (.int 0) = some (encR (t.getD 0 [])) := h.ix (i := 0) (by omega)
  have lt5 : (t.map encR).length ≤ 100000 := by rw [List.length_map, h.len]; omega
  have rC : aiR1 (aCons (aF dLen (aCons (a2 dIx (aVarM 0) (aC (.int 0))) aNil)) aNil) [.im (encT t), .no, .no] = some ((List.range C).map iN) := by
    simp only [aiR1, aCons, aF, a2, aVarM, aC, aNil, List.getElem?_cons_zero, List.getElem?_cons_succ, ix0, h.lenR (i := 0) (by omega)]
    have hb : ((C : Nat) : Int) ≤ 100000 ∧ -100000 ≤ ((C : Nat) : Int) := by omega
    show (if ((C : Nat) : Int) ≤ 100000 ∧ -100000 ≤ ((C : Nat) : Int) then some (rg 0 ((C : Nat) : Int).toNat) else none) = _
    rw [if_pos hb, Int.toNat_natCast]
    exact congrArg some (rg_iN C)
  have o : aLc (aiR1 (aCons (aF dLen (aCons (a2 dIx (aVarM 0) (aC (.int 0))) aNil)) aNil)) (agN 1) aYes e_exchanged_2 [1] [.im (encT t), .no, .no] = some ((List.range C).map fun c => encR (t.map fun r => r.getD c false)) := by
    unfold aLc
    rw [rC]
    dsimp only
    refine compL_i (List.range C) iN _ fun c hc => ⟨[.im (encT t), .im (iN c), .no], rfl, ?_⟩
    have hc' := List.mem_range.mp hc
    have i1 : aLc (aiT (aVar 0)) (agN 2) aYes e_exchanged_1 [2] [.im (encT t), .im (iN c), .no] = some (t.map fun r => bI (r.getD c false)) := by
      have e2 : aiT (aVar 0) [.im (encT t), .im (iN c), .no] = some (t.map encR) := by
        simp only [aiT, aVar, List.getElem?_cons_zero, encT, if_pos lt5]
      unfold aLc
      rw [e2]
      dsimp only
      refine compL_i t encR _ fun r hr => ⟨[.im (encT t), .im (iN c), .im (encR r)], rfl, ?_⟩
      have hrl := h.row r hr
      unfold e_exchanged_1
      simp only [a2, aVarM, List.getElem?_cons_zero, List.getElem?_cons_succ]
      refine atI_nat ?_
      rw [List.getElem?_map, List.getElem?_eq_getElem (by omega : c < r.length), List.getD_eq_getElem?_getD, List.getElem?_eq_getElem (by omega : c < r.length)]
      rfl
    unfold e_exchanged_2
    simp only [aF, aCons, aLst, i1, aNil, dTuple]
    unfold encR
    rw [List.map_map]
    rfl
  unfold F_exchanged a_exchanged
  simp only [runF, en0, List.getElem?_cons_zero, List.getElem?_cons_succ, List.set, List.map_cons, List.map_nil, List.replicate, List.cons_append, List.nil_append, List.length_cons, List.length_nil, if_true, aSeq, aDropX, aCallX, aCons, aVar, aNil, e1, aRet, aF, aLst, o, dTuple, ofOut]
  unfold encT exT
  rw [List.map_map]
  rfl
end
end Lw
set_option Elab.async false
set_option linter.all false
set_option maxRecDepth 100000
set_option maxHeartbeats 4000000
namespace Lw
open PySem L2 Rf
def b_picked_1 : AS := (aIfS (tOr' (tNot' (aTr (aCall F_is_list_of (aCons (aVar 3) (aCons (aVar 4) aNil))))) (tNot' (aTr (aVarM 3)))) (aRaise "InvalidPlace") aSkip)
def a_picked : AS := (aSeq (aDropX (aCallX F_check_table (aCons (aVar 0) aNil)))
  (aSeq (aFor (aiT (aTup (aCons (aTup (aCons (aVar 1) (aCons (aF dLen (aCons (aVarM 0) aNil)) aNil))) (aCons (aTup (aCons (aVar 2) (aCons (aF dLen (aCons (a2 dIx (aVarM 0) (aC (.int 0))) aNil)) aNil))) aNil)))) (agT 2 (agCons (agN 3) (agCons (agN 4) agNil))) b_picked_1 [3, 4])
  (aRet (aCall F_ordered (aCons (aVar 0) (aCons (aVar 1) (aCons (aVar 2) aNil)))))))
def F_picked : Fn := runF 2 a_picked
def e__law_lists_1 : AE := (a2 dAdd (aVarM 5) (aTup (aCons (aVar 6) aNil)))
def t__law_lists_1 : AT := (a2t dNin (aVarM 6) (aVarM 5))
def b__law_lists_1 : AS := (aSet 4 (aLst (al2 lAdd (aVarM 4) (aLst (aLc (aiR1 (aCons (aVarM 0) aNil)) (agN 6) t__law_lists_1 e__law_lists_1 [6])))))
def b__law_lists_2 : AS := (aSeq (aSet 4 (aLst aNil))
  (aSeq (aFor (aiL (aVar 2)) (agN 5) b__law_lists_1 [5])
  (aSet 2 (aVar 4))))
def a__law_lists : AS := (aSeq (aSet 2 (aLst (aCons (aTup aNil) aNil)))
  (aSeq (aFor (aiR1 (aCons (aVarM 1) aNil)) (agN 3) b__law_lists_2 [3, 4, 5])
  (aRet (aVar 2))))
def F__law_lists : Fn := runF 5 a__law_lists
def hd__law_picked : Xc → Option (Option D) := hdX ["InvalidPlace", "RingError", "InvalidTable"] [("InvalidPlace", fun x => .str (if ((subX x "RingError") && (!(subX x "InvalidTable"))) then "place" else "other"))]
def a__law_picked : AS := (aTry 3 (aRetX (aCallX F_picked (aCons (aVar 0) (aCons (aVar 1) (aCons (aVar 2) aNil))))) hd__law_picked)
def F__law_picked : Fn := runF 1 a__law_picked
end Lw
set_option Elab.async false
set_option linter.all false
set_option maxRecDepth 100000
set_option maxHeartbeats 4000000
set_option autoImplicit false
namespace Lw
open PySem L2 Rf

/-! ## words for the laws' own bodies -/
theorem cons_lst {al : AA} {E : En} {ds : List D} (h : al E = some ds) : aCons (aLst al) aNil E = some [.lst ds] := by
  unfold aCons aLst aNil
  rw [h]
theorem seq_nx {f g : AS} {E E1 : En} (h : f E = some (.nx E1)) : aSeq f g E = g E1 := by
  unfold aSeq
  rw [h]
theorem set_eq {i : Nat} {f : AE} {E : En} {d : D} (h : f E = some d) : aSet i f E = some (.nx (E.set i (.im d))) := by
  unfold aSet
  rw [h]
theorem call1 {F : Fn} {f : AE} {E : En} {d r : D} (h : f E = some d) (hF : F [d] = some (.ok r)) : aCall F (aCons f aNil) E = some r := by
  unfold aCall aCons aNil
  rw [h]
  dsimp only
  rw [hF]
theorem call2 {F : Fn} {f g : AE} {E : En} {d e r : D} (h : f E = some d) (h2 : g E = some e) (hF : F [d, e] = some (.ok r)) : aCall F (aCons f (aCons g aNil)) E = some r := by
  have : aCons f (aCons g aNil) E = some [d, e] := by simp only [aCons, aNil, h, h2]
  unfold aCall
  rw [this]
  dsimp only
  rw [hF]
theorem call3 {F : Fn} {f g k : AE} {E : En} {d e c r : D} (h : f E = some d) (h2 : g E = some e) (h3 : k E = some c) (hF : F [d, e, c] = some (.ok r)) : aCall F (aCons f (aCons g (aCons k aNil))) E = some r := by
  have : aCons f (aCons g (aCons k aNil)) E = some [d, e, c] := by simp only [aCons, aNil, h, h2, h3]
  unfold aCall
  rw [this]
  dsimp only
  rw [hF]
theorem a2_eq {f : D → D → Option D} {a b : AE} {E : En} {d e r : D} (h : a E = some d) (h2 : b E = some e) (hf : f d e = some r) : a2 f a b E = some r := by
  unfold a2
  rw [h]
  dsimp only
  rw [h2]
  exact hf
theorem a2t_eq {f : D → D → Option Bool} {a b : AE} {E : En} {d e : D} {r : Bool} (h : a E = some d) (h2 : b E = some e) (hf : f d e = some r) : a2t f a b E = some r := by
  unfold a2t
  rw [h]
  dsimp only
  rw [h2]
  exact hf
theorem ifS_t {c : AT} {f g : AS} {E : En} (h : c E = some true) : aIfS c f g E = f E := by unfold aIfS; rw [h]
theorem ifS_f {c : AT} {f g : AS} {E : En} (h : c E = some false) : aIfS c f g E = g E := by unfold aIfS; rw [h]
theorem dixN {dr : List Int} (hl : dr.length = 60) (hb : ∀ x ∈ dr, 0 ≤ x ∧ x < 1000) (k : Nat) (h : k < 60) : dIx (.lst (dr.map D.int)) (.int ((k : Nat) : Int)) = some (iN (dr.getD k 0).toNat) := by
  rw [dix hl k h]
  obtain ⟨h1, h2⟩ := dr_in hl hb k h
  unfold iN
  congr 2
  omega
/-- the draws, by places -/
theorem draws_eq (ns : List Int) (a : Int) (ha : 0 ≤ a) : ∃ (dd : D) (x : Nat → Nat), F__law_row [.scr ns, .int a] = some (.ok dd) ∧ ∀ k : Nat, k < 60 → dIx dd (.int ((k : Nat) : Int)) = some (iN (x k)) := by
  obtain ⟨dr, hl, hb, e1⟩ := row_eq ns a ha
  exact ⟨_, fun k => (dr.getD k 0).toNat, e1, fun k hk => dixN hl hb k hk⟩
theorem modlit (x k : Nat) (hk : 0 < k) : dMod (iN x) (.int ((k : Nat) : Int)) = some (iN (x % k)) := mod_iN hk
structure Tz (t : Tb) (R C : Nat) : Prop where
  sz : Sz t R C
  r1 : 1 ≤ R
  r5 : R ≤ 5
  c1 : 1 ≤ C
  c5 : C ≤ 5
theorem tabZ (ns : List Int) : ∃ t R C, Tz t R C ∧ F__law_table [.scr ns, .int 2, .int 5] = some (.ok (encT t)) := by
  obtain ⟨t, ⟨R, C, h, hR, hR5, hC, hC5⟩, e1⟩ := table_eq ns 2 5 (by omega) (by omega) (by omega)
  exact ⟨t, R, C, ⟨h, hR, hR5, hC, hC5⟩, e1⟩
theorem cut_take {xs : List D} {a : Nat} (h : a ≤ xs.length) : cutD xs none (some ((a : Nat) : Int)) = xs.take a := by
  unfold cutD
  rw [HT.sIx_nat, HT.sIx_none, Nat.min_eq_left h]
  simp
theorem cut_drop {xs : List D} {a : Nat} (h : a ≤ xs.length) : cutD xs (some ((a : Nat) : Int)) none = xs.drop a := by
  unfold cutD
  rw [HT.sIx_nat, HT.sIx_none, Nat.min_eq_left h, ← List.length_drop, List.take_length]
/-! ## _law_lists -/
theorem lst_step (n k : Nat) (one : List Nat) (found lg : D) (dn d3 : Sl) (hn : n ≤ 1000) (ho : one.length ≤ 1000) : aLc (aiR1 (aCons (aVarM 0) aNil)) (agN 6) t__law_lists_1 e__law_lists_1 [6] [.im (iN n), .im (iN k), .im found, d3, .im lg, .im (encL one), dn] = some ((stp n one).map encL) := arr_step n k one found dn d3 (.im lg) hn ho
theorem lst_loop (n m k : Nat) (hn : n ≤ 5) (hk : k < 5) (t3 : Sl) : forL (agN 5) b__law_lists_1 [5] ((arrs n k).map encL) [.im (iN n), .im (iN m), .im (.lst ((arrs n k).map encL)), t3, .im (.lst []), .no, .no] =
    some (.nx [.im (iN n), .im (iN m), .im (.lst ((arrs n k).map encL)), t3, .im (.lst ((arrs n (k + 1)).map encL)), .no, .no]) := by
  have hpow : ∀ j, j ≤ 5 → n ^ j ≤ 3125 := fun j hj => Nat.le_trans (Nat.pow_le_pow_left hn j) (Nat.le_trans (Nat.pow_le_pow_right (by omega) hj) (by decide))
  have hbig := Nat.le_trans (arrs_len n (k + 1)) (hpow (k + 1) (by omega))
  have main := forL_app (g := agN 5) (b := b__law_lists_1) (l := [5]) 100000 encL (fun one => (stp n one).map encL) (fun acc => [.im (iN n), .im (iN m), .im (.lst ((arrs n k).map encL)), t3, .im (.lst acc), .no, .no]) (arrs n k) (fun one ho acc ha => by
    have hone : one.length = k := ((mem_arrs n k one).mp ho).1
    refine ⟨[.im (iN n), .im (iN m), .im (.lst ((arrs n k).map encL)), t3, .im (.lst acc), .im (encL one), .no], [.im (iN n), .im (iN m), .im (.lst ((arrs n k).map encL)), t3, .im (.lst (acc ++ (stp n one).map encL)), .im (encL one), .no], rfl, ?_, rfl⟩
    have st := lst_step n m one (.lst ((arrs n k).map encL)) (.lst acc) .no t3 (by omega) (by omega)
    unfold b__law_lists_1
    simp only [aSet, aLst, al2, aVarM, List.getElem?_cons_zero, List.getElem?_cons_succ, st, lAdd, if_pos ha, List.set]) [] (by
      rw [List.length_nil, Nat.zero_add, ← List.map_flatMap, List.length_map]
      show (arrs n (k + 1)).length ≤ 100000
      omega)
  rw [List.nil_append, ← List.map_flatMap] at main
  exact main
theorem lists_eq (n m : Nat) (hn : n ≤ 5) (hm : m ≤ 5) : F__law_lists [iN n, iN m] = some (.ok (.lst ((arrs n m).map encL))) := by
  unfold F__law_lists a__law_lists
  have hb : ((m : Nat) : Int) ≤ 100000 ∧ -100000 ≤ ((m : Nat) : Int) := by omega
  have e1 : aiR1 (aCons (aVarM 1) aNil) [.im (iN n), .im (iN m), .im (.lst [.tup []]), .no, .no, .no, .no] = some ((List.range m).map iN) := by
    simp only [aiR1, aCons, aVarM, aNil, List.getElem?_cons_zero, List.getElem?_cons_succ, iN, if_pos hb, Int.toNat_natCast]
    rw [← rg_iN m]
  obtain ⟨E', h1, h2⟩ := forL_ind0 (g := agN 3) (b := b__law_lists_2) (l := [3, 4, 5]) (ds := (List.range m).map iN) (E := [.im (iN n), .im (iN m), .im (.lst [.tup []]), .no, .no, .no, .no])
    (fun i E => E = [.im (iN n), .im (iN m), .im (.lst ((arrs n i).map encL)), .no, .no, .no, .no]) rfl (fun i d E hd hE => by
      subst hE
      have hi : i < m := by
        have := (List.getElem?_eq_some_iff.mp hd).1
        rw [List.length_map, List.length_range] at this
        exact this
      have hl := arrs_ok hn (by omega : i ≤ 5)
      refine ⟨[.im (iN n), .im (iN m), .im (.lst ((arrs n i).map encL)), .im d, .no, .no, .no], [.im (iN n), .im (iN m), .im (.lst ((arrs n (i + 1)).map encL)), .im d, .im (.lst ((arrs n (i + 1)).map encL)), .no, .no], rfl, ?_, rfl⟩
      unfold b__law_lists_2
      simp only [aSeq, aSet, aLst, aNil, List.set, aFor, aiL, aVar, List.getElem?_cons_zero, List.getElem?_cons_succ, if_pos hl, wipeE, lst_loop n m i hn (by omega)])
  simp only [runF, en0, List.getElem?_cons_zero, List.getElem?_cons_succ, List.set, List.map_cons, List.map_nil, List.replicate, List.cons_append, List.nil_append, List.length_cons, List.length_nil, if_true, aSeq, aSet, aLst, aCons, aTup, aNil, aFor, e1, wipeE, h1, h2, aRet, aVar, ofOut, List.length_map, List.length_range]
/-! ## picked -/
def badL (n : Nat) (d : D) : Bool := !isLB n d || (match d with | .tup [] => true | _ => false)
section
variable {t : Tb} {R C : Nat}
theorem pick_body (d : D) (n : Nat) (hp : pl d 8 = true) (hs : smallT d = true) (a b c : Sl) : b_picked_1 [a, b, c, .im d, .im (iN n)] = if badL n d then some (.er (.own "InvalidPlace") [a, b, c, .im d, .im (iN n)]) else some (.nx [a, b, c, .im d, .im (iN n)]) := by
  have e := is_list_of_eq n d hp hs
  unfold b_picked_1
  simp only [aIfS, tOr', tNot', aTr, aCall, aCons, aVar, aVarM, aNil, List.getElem?_cons_zero, List.getElem?_cons_succ, e, tru]
  cases hB : isLB n d with
  | false =>
    unfold badL
    rw [hB]
    rfl
  | true =>
    obtain ⟨xs, rfl, _, _⟩ := isLB_true hB
    unfold badL
    rw [hB]
    cases xs <;> rfl
theorem picked_eq (z : Tz t R C) (d1 d2 : D) (hp1 : pl d1 8 = true) (hs1 : smallT d1 = true) (hp2 : pl d2 8 = true) (hs2 : smallT d2 = true) :
    (badL R d1 = true ∨ badL C d2 = true → F_picked [encT t, d1, d2] = some (.er (.own "InvalidPlace"))) ∧ (∀ rows cols, d1 = encL rows → d2 = encL cols → okL R rows → okL C cols → rows ≠ [] → cols ≠ [] → F_picked [encT t, d1, d2] = some (.ok (encT (ordT t rows cols)))) := by
  have h := z.sz
  have e1 := check_enc h z.r1 z.r5 z.c1 z.c5
  have ix0 : dIx (encT t) (.int 0) = some (encR (t.getD 0 [])) := h.ix (i := 0) (by have := z.r1; omega)
  have lr0 := h.lenR (i := 0) (by have := z.r1; omega)
  have it : aiT (aTup (aCons (aTup (aCons (aVar 1) (aCons (aF dLen (aCons (aVarM 0) aNil)) aNil))) (aCons (aTup (aCons (aVar 2) (aCons (aF dLen (aCons (a2 dIx (aVarM 0) (aC (.int 0))) aNil)) aNil))) aNil))) [.im (encT t), .im d1, .im d2, .no, .no] = some [.tup [d1, iN R], .tup [d2, iN C]] := by
    simp only [aiT, aTup, aCons, aVar, aF, aVarM, aNil, a2, aC, List.getElem?_cons_zero, List.getElem?_cons_succ, h.lenT, ix0, lr0]
    rfl
  have b1 := pick_body d1 R hp1 hs1 (.im (encT t)) (.im d1) (.im d2)
  have b2 := pick_body d2 C hp2 hs2 (.im (encT t)) (.im d1) (.im d2)
  have lp : forL (agT 2 (agCons (agN 3) (agCons (agN 4) agNil))) b_picked_1 [3, 4] [.tup [d1, iN R], .tup [d2, iN C]] [.im (encT t), .im d1, .im d2, .no, .no] = if badL R d1 then some (.er (.own "InvalidPlace") [.im (encT t), .im d1, .im d2, .im d1, .im (iN R)]) else if badL C d2 then some (.er (.own "InvalidPlace") [.im (encT t), .im d1, .im d2, .im d2, .im (iN C)]) else some (.nx [.im (encT t), .im d1, .im d2, .no, .no]) := by
    rw [forL]
    show (match b_picked_1 [.im (encT t), .im d1, .im d2, .im d1, .im (iN R)] with | some (.nx E2) => _ | some (.ct E2) => _ | some (.bk E2) => _ | r => r) = _
    rw [b1]
    cases badL R d1 with
    | true => rfl
    | false =>
      show forL (agT 2 (agCons (agN 3) (agCons (agN 4) agNil))) b_picked_1 [3, 4] [.tup [d2, iN C]] [.im (encT t), .im d1, .im d2, .no, .no] = _
      rw [forL]
      show (match b_picked_1 [.im (encT t), .im d1, .im d2, .im d2, .im (iN C)] with | some (.nx E2) => _ | some (.ct E2) => _ | some (.bk E2) => _ | r => r) = _
      rw [b2]
      cases badL C d2 <;> rfl
  unfold F_picked a_picked
  refine ⟨fun hbad => ?_, fun rows cols q1 q2 g1 g2 n1 n2 => ?_⟩
  · simp only [runF, en0, List.getElem?_cons_zero, List.getElem?_cons_succ, List.set, List.map_cons, List.map_nil, List.replicate, List.cons_append, List.nil_append, List.length_cons, List.length_nil, if_true, aSeq, aDropX, aCallX, aCons, aVar, aNil, e1, aFor]
    rw [it]
    simp only [wipeE, List.set]
    rw [lp]
    cases hb1 : badL R d1 with
    | true => rfl
    | false =>
      rcases hbad with q | q
      · rw [hb1] at q; cases q
      · rw [q]; rfl
  · subst q1 q2
    have nb1 : badL R (encL rows) = false := by
      unfold badL
      rw [isLB_encL, decide_eq_true g1.2, decide_eq_true g1.1]
      cases rows with
      | nil => exact absurd rfl n1
      | cons x xs => rfl
    have nb2 : badL C (encL cols) = false := by
      unfold badL
      rw [isLB_encL, decide_eq_true g2.2, decide_eq_true g2.1]
      cases cols with
      | nil => exact absurd rfl n2
      | cons x xs => rfl
    have o := ordered_eq h g1.2 g2.2 (by have := nodup_le R rows g1.1 g1.2; have := z.r5; omega) (by have := nodup_le C cols g2.1 g2.2; have := z.c5; omega)
    rw [nb1, nb2] at lp
    simp only [runF, en0, List.getElem?_cons_zero, List.getElem?_cons_succ, List.set, List.map_cons, List.map_nil, List.replicate, List.cons_append, List.nil_append, List.length_cons, List.length_nil, if_true, aSeq, aDropX, aCallX, aCons, aVar, aNil, e1, aFor]
    rw [it]
    simp only [wipeE, List.set]
    rw [lp]
    simp only [Bool.false_eq_true, if_false, aRet, aCall, aCons, aVar, aNil, List.getElem?_cons_zero, List.getElem?_cons_succ, o]
    rfl
theorem law_picked_bad {d1 d2 : D} (h : F_picked [encT t, d1, d2] = some (.er (.own "InvalidPlace"))) : F__law_picked [encT t, d1, d2] = some (.ok (.str "place")) := by
  have hd : hd__law_picked (.own "InvalidPlace") = some (some (.str "place")) := by rfl
  unfold F__law_picked a__law_picked
  simp only [runF, en0, List.getElem?_cons_zero, List.getElem?_cons_succ, List.set, List.map_cons, List.map_nil, List.replicate, List.cons_append, List.nil_append, List.length_cons, List.length_nil, if_true, aTry, aRetX, aCallX, aCons, aVar, aNil, h, hd]
  rfl
theorem law_picked_ok {d1 d2 r : D} (h : F_picked [encT t, d1, d2] = some (.ok r)) : F__law_picked [encT t, d1, d2] = some (.ok r) := by
  unfold F__law_picked a__law_picked
  simp only [runF, en0, List.getElem?_cons_zero, List.getElem?_cons_succ, List.set, List.map_cons, List.map_nil, List.replicate, List.cons_append, List.nil_append, List.length_cons, List.length_nil, if_true, aTry, aRetX, aCallX, aCons, aVar, aNil, h]
  rfl
end
end Lw
set_option Elab.async false
set_option linter.all false
set_option maxRecDepth 100000
set_option maxHeartbeats 4000000
namespace Lw
open PySem L2 Rf
def a_corner : AS := (aSeq (aDropX (aCallX F_check_table (aCons (aVar 0) aNil)))
  (aRet (aCall F_corner_of (aCons (aVar 0) aNil))))
def F_corner : Fn := runF 0 a_corner
def e__law_list_fits_1 : AE := (aVar 2)
def t__law_list_fits_1 : AT := (tNot' (aTr (aCall F__law_in (aCons (aVar 2) (aCons (aC (.int 0)) (aCons (a2 dSub (aVarM 1) (aC (.int 1))) aNil))))))
def a__law_list_fits : AS := (aSeq (aIfS (tOr' (tNot' (aTr (aIsi "tuple" (aVarM 0)))) (a2t dNe (aLst (aLc (aiT (aVar 0)) (agN 2) t__law_list_fits_1 e__law_list_fits_1 [2])) (aLst aNil))) (aRet (aC (.bl false))) aSkip)
  (aRet (a2 (bv dEq) (aF dLen (aCons (aLst (alSortSet (aVarM 0))) aNil)) (aF dLen (aCons (aVarM 0) aNil)))))
def F__law_list_fits : Fn := runF 1 a__law_list_fits
def a__law_ring_fits : AS := (aSeq (aIfS (tOr' (tNot' (aTr (aIsi "tuple" (aVarM 1)))) (a2t dNe (aF dLen (aCons (aVarM 1) aNil)) (aC (.int 2)))) (aRet (aC (.bl false))) aSkip)
  (aSeq (aIfS (tOr' (tNot' (aTr (aCall F__law_list_fits (aCons (a2 dIx (aVarM 1) (aC (.int 0))) (aCons (aF dLen (aCons (aVarM 0) aNil)) aNil))))) (tNot' (aTr (aCall F__law_list_fits (aCons (a2 dIx (aVarM 1) (aC (.int 1))) (aCons (aF dLen (aCons (a2 dIx (aVarM 0) (aC (.int 0))) aNil)) aNil)))))) (aRet (aC (.bl false))) aSkip)
  (aRet (vAnd (a2 (bv dEq) (aF dLen (aCons (a2 dIx (aVarM 1) (aC (.int 0))) aNil)) (aF dLen (aCons (a2 dIx (aVarM 1) (aC (.int 1))) aNil))) (aCall F__law_is_ring (aCons (aVar 0) (aCons (a2 dIx (aVarM 1) (aC (.int 0))) (aCons (a2 dIx (aVarM 1) (aC (.int 1))) aNil))))))))
def F__law_ring_fits : Fn := runF 0 a__law_ring_fits
def a__law_orders_fit : AS := (aSeq (aIfS (tOr' (tNot' (aTr (aIsi "tuple" (aVarM 1)))) (a2t dNe (aF dLen (aCons (aVarM 1) aNil)) (aC (.int 2)))) (aRet (aC (.bl false))) aSkip)
  (aSeq (aIfS (tOr' (tNot' (aTr (aCall F__law_list_fits (aCons (a2 dIx (aVarM 1) (aC (.int 0))) (aCons (aF dLen (aCons (aVarM 0) aNil)) aNil))))) (tNot' (aTr (aCall F__law_list_fits (aCons (a2 dIx (aVarM 1) (aC (.int 1))) (aCons (aF dLen (aCons (a2 dIx (aVarM 0) (aC (.int 0))) aNil)) aNil)))))) (aRet (aC (.bl false))) aSkip)
  (aSeq (aIfS (tOr' (a2t dNe (aF dLen (aCons (a2 dIx (aVarM 1) (aC (.int 0))) aNil)) (aF dLen (aCons (aVarM 0) aNil))) (a2t dNe (aF dLen (aCons (a2 dIx (aVarM 1) (aC (.int 1))) aNil)) (aF dLen (aCons (a2 dIx (aVarM 0) (aC (.int 0))) aNil)))) (aRet (aC (.bl false))) aSkip)
  (aRet (a2 (bv dEq) (aCall F__law_cornered (aCons (aVar 0) (aCons (a2 dIx (aVarM 1) (aC (.int 0))) (aCons (a2 dIx (aVarM 1) (aC (.int 1))) aNil)))) (aLst aNil))))))
def F__law_orders_fit : Fn := runF 0 a__law_orders_fit
end Lw
set_option Elab.async false
set_option linter.all false
set_option maxRecDepth 100000
set_option maxHeartbeats 4000000
set_option autoImplicit false
namespace Lw
open PySem L2 Rf

theorem law_list_fits_eq (n : Nat) (d : D) (hp : pl d 8 = true) (hs : smallT d = true) : F__law_list_fits [d, iN n] = some (.ok (.bl (isLB n d))) := by
  unfold F__law_list_fits a__law_list_fits
  by_cases ht : ∃ ds, d = .tup ds
  · obtain ⟨ds, rfl⟩ := ht
    have hlen : ds.length ≤ 60 := of_decide_eq_true hs
    have hpl : pls ds 7 = true := by rw [pl] at hp; exact hp
    have e1 : aiT (aVar 0) [.im (.tup ds), .im (iN n), .no] = some ds := by
      have : ds.length ≤ 100000 := by omega
      simp only [aiT, aVar, List.getElem?_cons_zero, if_pos this]
    have lc : aLc (aiT (aVar 0)) (agN 2) t__law_list_fits_1 e__law_list_fits_1 [2] [.im (.tup ds), .im (iN n), .no] = some (ds.filter fun x => !inR 0 ((n : Int) - 1) x) := by
      unfold aLc
      rw [e1]
      dsimp only
      have := compL_f (ag := agN 2) (t := t__law_list_fits_1) (f := e__law_list_fits_1) (E := wipeE [.im (.tup ds), .im (iN n), .no] [2]) ds id (fun x => !inR 0 ((n : Int) - 1) x) id fun x hx => ⟨[.im (.tup ds), .im (iN n), .im x], rfl, by
        have := law_in_eq (x := x) 0 ((n : Int) - 1) (pls_mem hpl hx)
        unfold t__law_list_fits_1
        simp only [tNot', aTr, aCall, aCons, aVar, aC, a2, aVarM, aNil, List.getElem?_cons_zero, List.getElem?_cons_succ, sub1, this, tru], fun _ => rfl⟩
      rw [List.map_id, List.map_id] at this
      exact this
    have isT : aIsi "tuple" (aVarM 0) [.im (.tup ds), .im (iN n), .no] = some (.bl true) := rfl
    have ne : dNe (.lst (ds.filter fun x => !inR 0 ((n : Int) - 1) x)) (.lst []) = some (!ds.all (inR 0 ((n : Int) - 1))) := by
      unfold dNe
      have p1 : pl (.lst (ds.filter fun x => !inR 0 ((n : Int) - 1) x)) 8 = true := by rw [pl]; exact pls_filter hpl
      rw [p1]
      show some (!deq (.lst (ds.filter fun x => !inR 0 ((n : Int) - 1) x)) (.lst [])) = _
      rw [deq, deqs_nil, filt_empty]
    cases hall : ds.all (inR 0 ((n : Int) - 1)) with
    | false =>
      have hB : isLB n (.tup ds) = false := by
        show (ds.all (inR 0 ((n : Int) - 1)) && _) = false
        rw [hall]; rfl
      rw [hall] at ne
      rw [hB]
      simp only [runF, en0, List.getElem?_cons_zero, List.getElem?_cons_succ, List.set, List.map_cons, List.map_nil, List.replicate, List.cons_append, List.nil_append, List.length_cons, List.length_nil, if_true, aSeq, aIfS, tOr', tNot', aTr, isT, tru, Bool.not_true, a2t, aLst, lc, aNil, ne, Bool.not_false, aRet, aC]
      rfl
    | true =>
      rw [hall] at ne
      obtain ⟨xs, rfl, hx⟩ := ints_of_inR hall
      have hB : isLB n (.tup (xs.map iN)) = decide xs.Nodup := by
        have := isLB_encL n xs
        rw [decide_eq_true hx, Bool.true_and] at this
        exact this
      have hl2 : (xs.map fun x => ((x : Nat) : Int)).length ≤ 60 := by
        rw [List.length_map] at hlen ⊢
        omega
      have so : alSortSet (aVarM 0) [.im (.tup (xs.map iN)), .im (iN n), .no] = some ((Rf.sortI (undup (xs.map fun x => ((x : Nat) : Int)))).map D.int) := by
        simp only [alSortSet, aVarM, List.getElem?_cons_zero, ints_iN, if_pos hl2]
      have ls : dLen [.lst ((Rf.sortI (undup (xs.map fun x => ((x : Nat) : Int)))).map D.int)] = some (iN (undup (xs.map fun x => ((x : Nat) : Int))).length) := by
        show some (D.int (((Rf.sortI (undup (xs.map fun x => ((x : Nat) : Int)))).map D.int).length : Nat)) = _
        rw [List.length_map, (Rf.sortI_perm _).length_eq]
        rfl
      have ln : dLen [.tup (xs.map iN)] = some (iN xs.length) := len_encL xs
      have he : ((undup (xs.map fun x => ((x : Nat) : Int))).length == xs.length) = decide xs.Nodup := by
        rw [Bool.eq_iff_iff, beq_iff_eq, decide_eq_true_eq, ← nodup_cast xs]
        constructor
        · intro q; exact nodup_of_len (by rw [q, List.length_map])
        · intro q; rw [undup_of_nodup q, List.length_map]
      rw [hB]
      simp only [runF, en0, List.getElem?_cons_zero, List.getElem?_cons_succ, List.set, List.map_cons, List.map_nil, List.replicate, List.cons_append, List.nil_append, List.length_cons, List.length_nil, if_true, aSeq, aIfS, tOr', tNot', aTr, isT, tru, Bool.not_true, a2t, aLst, lc, aNil, ne, aSkip, aRet, a2, bv, aF, aCons, so, ls, aVarM, ln, eq_iN, he, ofOut]
  · have hB : isLB n d = false := by
      cases d with
      | tup ds => exact absurd ⟨ds, rfl⟩ ht
      | _ => rfl
    have isT : aIsi "tuple" (aVarM 0) [.im d, .im (iN n), .no] = some (.bl false) := by
      cases d with
      | tup ds => exact absurd ⟨ds, rfl⟩ ht
      | scr _ => rw [pl] at hp; cases hp
      | obj _ => rw [pl] at hp; cases hp
      | _ => rfl
    rw [hB]
    simp only [runF, en0, List.getElem?_cons_zero, List.getElem?_cons_succ, List.set, List.map_cons, List.map_nil, List.replicate, List.cons_append, List.nil_append, List.length_cons, List.length_nil, if_true, aSeq, aIfS, tOr', tNot', aTr, isT, tru, Bool.not_false, aRet, aC]
    rfl
end Lw
set_option Elab.async false
set_option linter.all false
set_option maxRecDepth 100000
set_option maxHeartbeats 4000000
set_option autoImplicit false
namespace Lw
open PySem L2 Rf

mutual
theorem deq_self : ∀ (d : D) (n : Nat), pl d n = true → deq d d = true
  | .non, _, _ => rfl
  | .bl b, _, _ => by cases b <;> rfl
  | .int i, _, _ => by simp [deq]
  | .str s, _, _ => by simp [deq]
  | .lst xs, 0, h => by rw [pl] at h; cases h
  | .tup xs, 0, h => by rw [pl] at h; cases h
  | .lst xs, n + 1, h => by rw [pl] at h; rw [deq]; exact deqs_self xs n h
  | .tup xs, n + 1, h => by rw [pl] at h; rw [deq]; exact deqs_self xs n h
  | .scr _, _, h => by rw [pl] at h; cases h
  | .obj _, _, h => by rw [pl] at h; cases h
theorem deqs_self : ∀ (ds : List D) (n : Nat), pls ds n = true → deqs ds ds = true
  | [], _, _ => by simp [deqs]
  | d :: ds, n, h => by
    rw [pls, Bool.and_eq_true] at h
    rw [deqs, deq_self d n h.1, deqs_self ds n h.2]
    rfl
end
theorem ne_self {d : D} (h : pl d 8 = true) : dNe d d = some false := by unfold dNe; rw [h, deq_self d 8 h]; rfl
theorem eq_self {d : D} (h : pl d 8 = true) : dEq d d = some true := by unfold dEq; rw [h, deq_self d 8 h]; rfl
theorem tab_ext {t t' : Tb} {R C : Nat} (h : Sz t R C) (h' : Sz t' R C) (e : ∀ i j, i < R → j < C → tb t i j = tb t' i j) : t = t' := by
  apply List.ext_getElem?
  intro i
  by_cases hi : i < R
  · obtain ⟨r, a1, a2, a3⟩ := h.at hi
    obtain ⟨r', b1, b2, b3⟩ := h'.at hi
    rw [a1, b1]
    congr 1
    apply List.ext_getElem?
    intro j
    by_cases hj : j < C
    · have q := e i j hi hj
      have q1 : tb t i j = (t.getD i []).getD j false := rfl
      have q2 : tb t' i j = (t'.getD i []).getD j false := rfl
      rw [q1, q2, a2, b2, List.getD_eq_getElem?_getD, List.getD_eq_getElem?_getD, List.getElem?_eq_getElem (by omega : j < r.length), List.getElem?_eq_getElem (by omega : j < r'.length)] at q
      rw [List.getElem?_eq_getElem (by omega : j < r.length), List.getElem?_eq_getElem (by omega : j < r'.length)]
      exact congrArg some q
    · rw [List.getElem?_eq_none (by omega), List.getElem?_eq_none (by omega)]
  · rw [List.getElem?_eq_none (by rw [h.len]; omega), List.getElem?_eq_none (by rw [h'.len]; omega)]
/-! ## a body, statement by statement -/
theorem ev_seq {f g : AS} {E E1 : En} {o : Out} (h : f E = some (.nx E1)) (h2 : g E1 = some o) : aSeq f g E = some o := by rw [seq_nx h]; exact h2
theorem ev_set {i : Nat} {f : AE} {g : AS} {E : En} {o : Out} (d : D) (h : f E = some d) (h2 : g (E.set i (.im d)) = some o) : aSeq (aSet i f) g E = some o := ev_seq (set_eq h) h2
theorem ev_ifF {c : AT} {a : AS} {g : AS} {E : En} {o : Out} (h : c E = some false) (h2 : g E = some o) : aSeq (aIfS c a aSkip) g E = some o := ev_seq (by rw [ifS_f h]; rfl) h2
theorem ev_ret {f : AE} {E : En} {d : D} (h : f E = some d) : aRet f E = some (.rt d) := by unfold aRet; rw [h]
theorem aF_eq {f : List D → Option D} {aa : AA} {E : En} {ds : List D} {r : D} (h : aa E = some ds) (hf : f ds = some r) : aF f aa E = some r := by
  unfold aF
  rw [h]
  exact hf
theorem ev_call {F : Fn} {aa : AA} {E : En} {ds : List D} {d : D} (h : aa E = some ds) (h2 : F ds = some (.ok d)) : aCall F aa E = some d := by
  unfold aCall
  rw [h]
  dsimp only
  rw [h2]
/-! ## what an expression comes to, by a property -/
def Ev (P : D → Prop) (f : AE) (E : En) : Prop := ∃ d, f E = some d ∧ P d
def EvL (P : D → Prop) (n : Nat) (f : AA) (E : En) : Prop := ∃ ds, f E = some ds ∧ ds.length = n ∧ ∀ d ∈ ds, P d
def Tn (n : Nat) (d : D) : Prop := ∃ xs, d = .tup xs ∧ xs.length ≤ n ∧ pls xs 6 = true
def smallV : D → Bool
  | .tup [a, b] => smallT a && smallT b
  | _ => true
def GoodV (d : D) : Prop := pl d 8 = true ∧ smallV d = true
section
variable {E : En} {f g k : AE} {n m : Nat} {P Q : D → Prop}
theorem Ev.imp (h : Ev P f E) (q : ∀ d, P d → Q d) : Ev Q f E := let ⟨d, e, p⟩ := h; ⟨d, e, q d p⟩
theorem ev_tn {d : D} (h : f E = some d) (q : Tn n d) : Ev (Tn n) f E := ⟨d, h, q⟩
theorem tn_encL {xs : List Nat} (h : xs.length ≤ n) : Tn n (encL xs) := ⟨_, rfl, by rw [List.length_map]; exact h, pls_iN xs 6⟩
theorem ev_add (h1 : Ev (Tn n) f E) (h2 : Ev (Tn m) g E) (hb : n + m ≤ 100000 := by decide) : Ev (Tn (n + m)) (a2 dAdd f g) E := by
  obtain ⟨_, e1, xs, rfl, l1, p1⟩ := h1
  obtain ⟨_, e2, ys, rfl, l2, p2⟩ := h2
  refine ⟨.tup (xs ++ ys), a2_eq e1 e2 ?_, xs ++ ys, rfl, by rw [List.length_append]; omega, pls_append p1 p2⟩
  have : xs.length + ys.length ≤ 100000 := by omega
  show (if xs.length + ys.length ≤ 100000 then _ else none) = _
  rw [if_pos this]
theorem ev_sl {lo hi : AO} {l u : Option Int} (h1 : Ev (Tn n) f E) (h2 : lo E = some l) (h3 : hi E = some u) : Ev (Tn n) (aSl dSl f lo hi) E := by
  obtain ⟨_, e1, xs, rfl, l1, p1⟩ := h1
  refine ⟨.tup (cutD xs l u), ?_, _, rfl, Nat.le_trans cut_le l1, pls_cut p1⟩
  unfold aSl
  rw [e1]
  dsimp only
  rw [h2]
  dsimp only
  rw [h3]
  rfl
theorem pls_rev {a : List D} {n : Nat} (h : pls a n = true) : pls a.reverse n = true := by
  induction a with
  | nil => exact h
  | cons x xs ih =>
    rw [pls, Bool.and_eq_true] at h
    rw [List.reverse_cons]
    exact pls_append (ih h.2) (by rw [pls, h.1, pls]; rfl)
theorem ev_rev (h1 : Ev (Tn n) f E) : Ev (Tn n) (aRevT f) E := by
  obtain ⟨_, e1, xs, rfl, l1, p1⟩ := h1
  refine ⟨.tup xs.reverse, ?_, _, rfl, by rw [List.length_reverse]; exact l1, pls_rev p1⟩
  unfold aRevT
  rw [e1]
theorem ev_one {d : D} (h : f E = some d) (hp : pl d 6 = true) : Ev (Tn 1) (aTup (aCons f aNil)) E := ⟨.tup [d], by unfold aTup aCons; rw [h]; rfl, [d], rfl, Nat.le_refl 1, by rw [pls, hp, pls]; rfl⟩
theorem tn_small {d : D} (h : Tn n d) (hn : n ≤ 60) : pl d 7 = true ∧ smallT d = true := by
  obtain ⟨xs, rfl, l, p⟩ := h
  exact ⟨by rw [pl]; exact p, decide_eq_true (Nat.le_trans l hn)⟩
def Sm (d : D) : Prop := pl d 7 = true ∧ smallT d = true
theorem ev_sm (h : Ev (Tn n) f E) (hn : n ≤ 60 := by decide) : Ev Sm f E := h.imp fun _ q => tn_small q hn
theorem ev_listS {d : D} (h : Ev (Tn n) f E) : Ev Sm (aLst (alF lList (aCons f aNil))) E := by
  obtain ⟨_, e1, xs, rfl, l1, p1⟩ := h
  refine ⟨.lst xs, ?_, by rw [pl]; exact p1, rfl⟩
  unfold aLst alF aCons aNil
  rw [e1]
  rfl
theorem gv_pair (h1 : Ev Sm f E) (h2 : Ev Sm g E) : Ev GoodV (aTup (aCons f (aCons g aNil))) E := by
  obtain ⟨a, e1, p1, s1⟩ := h1
  obtain ⟨b, e2, p2, s2⟩ := h2
  refine ⟨.tup [a, b], ?_, ?_, ?_⟩
  · simp only [aTup, aCons, aNil, e1, e2]
  · rw [pl, pls, p1, pls, p2, pls]; rfl
  · show (smallT a && smallT b) = true
    rw [s1, s2]; rfl
theorem gv_one (h1 : Ev Sm f E) : Ev GoodV (aTup (aCons f aNil)) E := by
  obtain ⟨a, e1, p1, s1⟩ := h1
  refine ⟨.tup [a], ?_, ?_, rfl⟩
  · unfold aTup aCons aNil
    rw [e1]
  · rw [pl, pls, p1, pls]; rfl
theorem gv_non : Ev GoodV (aC .non) E := ⟨.non, rfl, rfl, rfl⟩
theorem gv_list {d : D} {xs : List D} (h : f E = some (.tup xs)) (hp : pls xs 7 = true) : Ev GoodV (aLst (alF lList (aCons f aNil))) E := by
  refine ⟨.lst xs, ?_, by rw [pl]; exact hp, rfl⟩
  unfold aLst alF aCons aNil
  rw [h]
  rfl
theorem evl_nil : EvL P 0 aNil E := ⟨[], rfl, rfl, fun d h => nomatch h⟩
theorem evl_cons {al : AA} (h1 : Ev P f E) (h2 : EvL P n al E) : EvL P (n + 1) (aCons f al) E := by
  obtain ⟨d, e1, p1⟩ := h1
  obtain ⟨ds, e2, l2, p2⟩ := h2
  refine ⟨d :: ds, ?_, by rw [List.length_cons, l2], fun x hx => ?_⟩
  · unfold aCons
    rw [e1, e2]
  · rcases List.mem_cons.mp hx with rfl | hx
    · exact p1
    · exact p2 x hx
theorem evl_add {al : AA} {ds : List D} (h1 : f E = some (.lst ds)) (hl : ds.length = n) (hd : ∀ d ∈ ds, P d) (h2 : EvL P m al E) (hb : n + m ≤ 100000 := by decide) : EvL P (n + m) (al2 lAdd f (aLst al)) E := by
  obtain ⟨es, e2, l2, p2⟩ := h2
  refine ⟨ds ++ es, ?_, by rw [List.length_append, hl, l2], fun x hx => ?_⟩
  · have : ds.length + es.length ≤ 100000 := by omega
    unfold al2 aLst
    rw [h1, e2]
    show (if ds.length + es.length ≤ 100000 then _ else none) = _
    rw [if_pos this]
  · rcases List.mem_append.mp hx with hx | hx
    · exact hd x hx
    · exact p2 x hx
theorem ev_ix {al : AA} {i : Nat} (h1 : EvL P n al E) (h2 : g E = some (iN i)) (hi : i < n) : Ev P (a2 dIx (aLst al) g) E := by
  obtain ⟨ds, e1, l1, p1⟩ := h1
  have hl : i < ds.length := by omega
  refine ⟨ds[i], a2_eq (d := .lst ds) (by unfold aLst; rw [e1]) h2 (atI_nat (List.getElem?_eq_getElem hl)), p1 _ (List.getElem_mem hl)⟩
theorem ev_setL {i : Nat} {al : AA} {h : AS} {o : Out} (h1 : EvL P n al E) (h2 : ∀ ds : List D, ds.length = n → (∀ d ∈ ds, P d) → h (E.set i (.im (.lst ds))) = some o) : aSeq (aSet i (aLst al)) h E = some o := by
  obtain ⟨ds, e1, l1, p1⟩ := h1
  exact ev_set (.lst ds) (by unfold aLst; rw [e1]) (h2 ds l1 p1)
theorem ev_setP {i : Nat} {h : AS} {o : Out} (h1 : Ev P f E) (h2 : ∀ d : D, P d → h (E.set i (.im d)) = some o) : aSeq (aSet i f) h E = some o := by
  obtain ⟨d, e1, p1⟩ := h1
  exact ev_set d e1 (h2 d p1)
theorem tup2 {a b : D} (h1 : f E = some a) (h2 : g E = some b) : aTup (aCons f (aCons g aNil)) E = some (.tup [a, b]) := by simp only [aTup, aCons, aNil, h1, h2]
theorem asg2 {a b : D} {i j : Nat} (h : f E = some (.tup [a, b])) : aAsg f (agT 2 (agCons (agN i) (agCons (agN j) agNil))) E = some (.nx ((E.set i (.im a)).set j (.im b))) := by
  unfold aAsg
  rw [h]
  rfl
theorem alRg_eq (h : f E = some (iN n)) (hn : n ≤ 1000) : aTup (alRg f) E = some (encL (List.range n)) := by
  have hb : ((n : Nat) : Int) ≤ 100000 ∧ -100000 ≤ ((n : Nat) : Int) := by omega
  unfold aTup alRg
  rw [h]
  show (match (if ((n : Nat) : Int) ≤ 100000 ∧ -100000 ≤ ((n : Nat) : Int) then some ((List.range ((n : Nat) : Int).toNat).map fun i => D.int (i : Nat)) else none) with | some ds => some (D.tup ds) | none => none) = _
  rw [if_pos hb, Int.toNat_natCast]
  rfl
theorem sl_to {xs : List Nat} (h : f E = some (encL xs)) (h2 : g E = some (iN n)) (hn : n ≤ xs.length) : aSl dSl f aNoP (aPart g) E = some (encL (xs.take n)) := by
  unfold aSl aNoP aPart
  rw [h, h2]
  show some (D.tup (cutD (xs.map iN) none (some ((n : Nat) : Int)))) = _
  rw [cut_take (by rw [List.length_map]; exact hn), ← List.map_take]
  rfl
theorem ne_bool (b : Bool) : dNe (.bl b) (.bl b) = some false := by cases b <;> rfl
theorem eq_bool (b : Bool) : dEq (.bl b) (.bl b) = some true := by cases b <;> rfl
theorem lenF {d : D} (h : f E = some d) (h2 : dLen [d] = some (iN n)) : aF dLen (aCons f aNil) E = some (iN n) := by
  unfold aF aCons aNil
  rw [h]
  exact h2
end
/-! ## the checkers, at any value -/
section
variable {t : Tb} {R C : Nat}
theorem ring_fits_pos (z : Tz t R C) {rows cols : List Nat} (gr : okL R rows) (gc : okL C cols) :
    F__law_ring_fits [encT t, .tup [encL rows, encL cols]] = some (.ok (.bl ((rows.length == cols.length && decide (3 ≤ cols.length)) && ringOn t rows cols))) := by
  have h := z.sz
  have hR := z.r1
  have hR5 := z.r5
  have hC5 := z.c5
  have l1 : rows.length ≤ 5 := Nat.le_trans (nodup_le R rows gr.1 gr.2) hR5
  have l2 : cols.length ≤ 5 := Nat.le_trans (nodup_le C cols gc.1 gc.2) hC5
  have e2 : F__law_list_fits [encL rows, iN R] = some (.ok (.bl true)) := by
    rw [law_list_fits_eq R _ (pl_encL rows 7) (smallT_encL (by omega)), isLB_encL, decide_eq_true gr.2, decide_eq_true gr.1]; rfl
  have e3 : F__law_list_fits [encL cols, iN C] = some (.ok (.bl true)) := by
    rw [law_list_fits_eq C _ (pl_encL cols 7) (smallT_encL (by omega)), isLB_encL, decide_eq_true gc.2, decide_eq_true gc.1]; rfl
  have ix0 : dIx (encT t) (.int 0) = some (encR (t.getD 0 [])) := h.ix (i := 0) (by omega)
  have lr0 := h.lenR (i := 0) (by omega)
  have lt := h.lenT
  have v0 : dIx (.tup [encL rows, encL cols]) (.int 0) = some (encL rows) := rfl
  have v1 : dIx (.tup [encL rows, encL cols]) (.int 1) = some (encL cols) := rfl
  have vl2 : dLen [.tup [encL rows, encL cols]] = some (.int 2) := rfl
  have isT : aIsi "tuple" (aVarM 1) [.im (encT t), .im (.tup [encL rows, encL cols])] = some (.bl true) := rfl
  have ne2 : dNe (.int 2) (.int 2) = some false := rfl
  unfold F__law_ring_fits a__law_ring_fits
  cases hq : rows.length == cols.length with
  | false =>
    simp only [runF, en0, List.getElem?_cons_zero, List.getElem?_cons_succ, List.set, List.map_cons, List.map_nil, List.replicate, List.cons_append, List.nil_append, List.length_cons, List.length_nil, if_true, aSeq, aIfS, tOr', tNot', aTr, isT, tru, Bool.not_true, a2t, aF, aCons, aNil, aVarM, vl2, aC, ne2, aSkip, aCall, a2, v0, v1, lt, ix0, lr0, e2, e3, aRet, vAnd, bv, len_encL, eq_iN, hq]
    rfl
  | true =>
    have hl : cols.length = rows.length := (eq_of_beq hq).symm
    have e4 := law_is_ring_eq h gr.2 gc.2 hl (by omega)
    simp only [runF, en0, List.getElem?_cons_zero, List.getElem?_cons_succ, List.set, List.map_cons, List.map_nil, List.replicate, List.cons_append, List.nil_append, List.length_cons, List.length_nil, if_true, aSeq, aIfS, tOr', tNot', aTr, isT, tru, Bool.not_true, a2t, aF, aCons, aNil, aVarM, vl2, aC, ne2, aSkip, aCall, aVar, a2, v0, v1, lt, ix0, lr0, e2, e3, aRet, vAnd, bv, len_encL, eq_iN, hq, e4, ofOut]
    rw [show decide (3 ≤ cols.length) = decide (2 < rows.length) from decide_eq_decide.mpr (by omega)]
    cases decide (2 < rows.length) <;> cases ringOn t rows cols <;> rfl
theorem orders_fit_pos (z : Tz t R C) {rows cols : List Nat} (gr : okL R rows) (gc : okL C cols) :
    F__law_orders_fit [encT t, .tup [encL rows, encL cols]] = some (.ok (.bl ((rows.length == R && cols.length == C) && (corners (ordT t rows cols) rows.length cols.length).isEmpty))) := by
  have h := z.sz
  have hR := z.r1
  have hR5 := z.r5
  have hC5 := z.c5
  have l1 : rows.length ≤ 5 := Nat.le_trans (nodup_le R rows gr.1 gr.2) hR5
  have l2 : cols.length ≤ 5 := Nat.le_trans (nodup_le C cols gc.1 gc.2) hC5
  have e2 : F__law_list_fits [encL rows, iN R] = some (.ok (.bl true)) := by
    rw [law_list_fits_eq R _ (pl_encL rows 7) (smallT_encL (by omega)), isLB_encL, decide_eq_true gr.2, decide_eq_true gr.1]; rfl
  have e3 : F__law_list_fits [encL cols, iN C] = some (.ok (.bl true)) := by
    rw [law_list_fits_eq C _ (pl_encL cols 7) (smallT_encL (by omega)), isLB_encL, decide_eq_true gc.2, decide_eq_true gc.1]; rfl
  have ix0 : dIx (encT t) (.int 0) = some (encR (t.getD 0 [])) := h.ix (i := 0) (by omega)
  have lr0 := h.lenR (i := 0) (by omega)
  have lt := h.lenT
  have v0 : dIx (.tup [encL rows, encL cols]) (.int 0) = some (encL rows) := rfl
  have v1 : dIx (.tup [encL rows, encL cols]) (.int 1) = some (encL cols) := rfl
  have vl2 : dLen [.tup [encL rows, encL cols]] = some (.int 2) := rfl
  have isT : aIsi "tuple" (aVarM 1) [.im (encT t), .im (.tup [encL rows, encL cols])] = some (.bl true) := rfl
  have ne2 : dNe (.int 2) (.int 2) = some false := rfl
  have e4 := cornered_eq h gr.2 gc.2 l1 l2
  have e5 : dEq (.lst ((corners (ordT t rows cols) rows.length cols.length).map f4)) (.lst []) = some (corners (ordT t rows cols) rows.length cols.length).isEmpty := by
    have p4 : ∀ l : List (Nat × Nat × Nat × Nat), pls (l.map f4) 7 = true := fun l => by
      induction l with
      | nil => rfl
      | cons x xs ih => rw [List.map_cons, pls, ih]; rfl
    unfold dEq
    have p1 : pl (.lst ((corners (ordT t rows cols) rows.length cols.length).map f4)) 8 = true := by rw [pl]; exact p4 _
    rw [p1]
    show some (deq (.lst _) (.lst [])) = _
    rw [deq, deqs_nil, List.isEmpty_map]
  unfold F__law_orders_fit a__law_orders_fit
  cases hr : rows.length == R with
  | false =>
    simp only [runF, en0, List.getElem?_cons_zero, List.getElem?_cons_succ, List.set, List.map_cons, List.map_nil, List.replicate, List.cons_append, List.nil_append, List.length_cons, List.length_nil, if_true, aSeq, aIfS, tOr', tNot', aTr, isT, tru, Bool.not_true, a2t, aF, aCons, aNil, aVarM, vl2, aC, ne2, aSkip, aCall, a2, v0, v1, lt, ix0, lr0, e2, e3, aRet, vAnd, bv, len_encL, neN, hr, Bool.not_false]
    rfl
  | true =>
    cases hc : cols.length == C with
    | false =>
      simp only [runF, en0, List.getElem?_cons_zero, List.getElem?_cons_succ, List.set, List.map_cons, List.map_nil, List.replicate, List.cons_append, List.nil_append, List.length_cons, List.length_nil, if_true, aSeq, aIfS, tOr', tNot', aTr, isT, tru, Bool.not_true, a2t, aF, aCons, aNil, aVarM, vl2, aC, ne2, aSkip, aCall, a2, v0, v1, lt, ix0, lr0, e2, e3, aRet, vAnd, bv, len_encL, neN, hr, hc, Bool.not_false]
      rfl
    | true =>
      simp only [runF, en0, List.getElem?_cons_zero, List.getElem?_cons_succ, List.set, List.map_cons, List.map_nil, List.replicate, List.cons_append, List.nil_append, List.length_cons, List.length_nil, if_true, aSeq, aIfS, tOr', tNot', aTr, isT, tru, Bool.not_true, a2t, aF, aCons, aNil, aVarM, aVar, vl2, aC, ne2, aSkip, aCall, a2, v0, v1, lt, ix0, lr0, e2, e3, aRet, vAnd, bv, len_encL, neN, hr, hc, e4, aLst, e5, ofOut]
      rfl
theorem isi_no {d : D} (h : pl d 8 = true) (ht : ∀ xs, d ≠ .tup xs) (E : En) (e : E[1]? = some (.im d)) : aIsi "tuple" (aVarM 1) E = some (.bl false) := by
  unfold aIsi aVarM
  rw [e]
  cases d with
  | tup ds => exact absurd rfl (ht ds)
  | scr _ => rw [pl] at h; cases h
  | obj _ => rw [pl] at h; cases h
  | _ => rfl
theorem checkers (z : Tz t R C) {d : D} (g : GoodV d) : ∃ b c, F_is_ring [encT t, d] = some (.ok (.bl b)) ∧ F__law_ring_fits [encT t, d] = some (.ok (.bl b)) ∧ F_are_orders [encT t, d] = some (.ok (.bl c)) ∧ F__law_orders_fit [encT t, d] = some (.ok (.bl c)) := by
  have h := z.sz
  have hR := z.r1
  have e1 := check_enc h z.r1 z.r5 z.c1 z.c5
  have ix0 : dIx (encT t) (.int 0) = some (encR (t.getD 0 [])) := h.ix (i := 0) (by omega)
  have lr0 := h.lenR (i := 0) (by omega)
  have lt := h.lenT
  obtain ⟨gp, gs⟩ := g
  by_cases ht : ∃ xs, d = .tup xs
  · obtain ⟨xs, rfl⟩ := ht
    have isT : aIsi "tuple" (aVarM 1) [.im (encT t), .im (.tup xs)] = some (.bl true) := rfl
    by_cases h2 : xs.length = 2
    · match xs, h2 with
      | [a, b], _ =>
        have gs : (smallT a && smallT b) = true := gs
        rw [Bool.and_eq_true] at gs
        rw [pl, pls, pls, Bool.and_eq_true, Bool.and_eq_true] at gp
        have pa : pl a 8 = true := pl_le a 7 8 (by omega) gp.1
        have pb : pl b 8 = true := pl_le b 7 8 (by omega) gp.2.1
        have i1 := is_list_of_eq R a pa gs.1
        have i2 := is_list_of_eq C b pb gs.2
        have j1 := law_list_fits_eq R a pa gs.1
        have j2 := law_list_fits_eq C b pb gs.2
        have v0 : dIx (.tup [a, b]) (.int 0) = some a := rfl
        have v1 : dIx (.tup [a, b]) (.int 1) = some b := rfl
        have vl2 : dLen [.tup [a, b]] = some (.int 2) := rfl
        have ne2 : dNe (.int 2) (.int 2) = some false := rfl
        cases ha : isLB R a with
        | false =>
          rw [ha] at i1 j1
          refine ⟨false, false, ?_, ?_, ?_, ?_⟩
          · unfold F_is_ring a_is_ring
            simp only [runF, en0, List.getElem?_cons_zero, List.getElem?_cons_succ, List.set, List.map_cons, List.map_nil, List.replicate, List.cons_append, List.nil_append, List.length_cons, List.length_nil, if_true, aSeq, aDropX, aCallX, aCons, aVar, aNil, e1, aIfS, tOr', tNot', aTr, isT, tru, Bool.not_true, Bool.not_false, a2t, aF, aVarM, vl2, aC, ne2, aSkip, aCall, a2, v0, v1, lt, ix0, lr0, i1, aRet, ofOut]
          · unfold F__law_ring_fits a__law_ring_fits
            simp only [runF, en0, List.getElem?_cons_zero, List.getElem?_cons_succ, List.set, List.map_cons, List.map_nil, List.replicate, List.cons_append, List.nil_append, List.length_cons, List.length_nil, if_true, aSeq, aDropX, aCallX, aCons, aVar, aNil, e1, aIfS, tOr', tNot', aTr, isT, tru, Bool.not_true, Bool.not_false, a2t, aF, aVarM, vl2, aC, ne2, aSkip, aCall, a2, v0, v1, lt, ix0, lr0, j1, aRet, ofOut]
          · unfold F_are_orders a_are_orders
            simp only [runF, en0, List.getElem?_cons_zero, List.getElem?_cons_succ, List.set, List.map_cons, List.map_nil, List.replicate, List.cons_append, List.nil_append, List.length_cons, List.length_nil, if_true, aSeq, aDropX, aCallX, aCons, aVar, aNil, e1, aIfS, tOr', tNot', aTr, isT, tru, Bool.not_true, Bool.not_false, a2t, aF, aVarM, vl2, aC, ne2, aSkip, aCall, a2, v0, v1, lt, ix0, lr0, i1, aRet, ofOut]
          · unfold F__law_orders_fit a__law_orders_fit
            simp only [runF, en0, List.getElem?_cons_zero, List.getElem?_cons_succ, List.set, List.map_cons, List.map_nil, List.replicate, List.cons_append, List.nil_append, List.length_cons, List.length_nil, if_true, aSeq, aDropX, aCallX, aCons, aVar, aNil, e1, aIfS, tOr', tNot', aTr, isT, tru, Bool.not_true, Bool.not_false, a2t, aF, aVarM, vl2, aC, ne2, aSkip, aCall, a2, v0, v1, lt, ix0, lr0, j1, aRet, ofOut]
        | true =>
          cases hb : isLB C b with
          | false =>
            rw [ha] at i1 j1
            rw [hb] at i2 j2
            refine ⟨false, false, ?_, ?_, ?_, ?_⟩
            · unfold F_is_ring a_is_ring
              simp only [runF, en0, List.getElem?_cons_zero, List.getElem?_cons_succ, List.set, List.map_cons, List.map_nil, List.replicate, List.cons_append, List.nil_append, List.length_cons, List.length_nil, if_true, aSeq, aDropX, aCallX, aCons, aVar, aNil, e1, aIfS, tOr', tNot', aTr, isT, tru, Bool.not_true, Bool.not_false, a2t, aF, aVarM, vl2, aC, ne2, aSkip, aCall, a2, v0, v1, lt, ix0, lr0, i1, i2, aRet, ofOut]
            · unfold F__law_ring_fits a__law_ring_fits
              simp only [runF, en0, List.getElem?_cons_zero, List.getElem?_cons_succ, List.set, List.map_cons, List.map_nil, List.replicate, List.cons_append, List.nil_append, List.length_cons, List.length_nil, if_true, aSeq, aDropX, aCallX, aCons, aVar, aNil, e1, aIfS, tOr', tNot', aTr, isT, tru, Bool.not_true, Bool.not_false, a2t, aF, aVarM, vl2, aC, ne2, aSkip, aCall, a2, v0, v1, lt, ix0, lr0, j1, j2, aRet, ofOut]
            · unfold F_are_orders a_are_orders
              simp only [runF, en0, List.getElem?_cons_zero, List.getElem?_cons_succ, List.set, List.map_cons, List.map_nil, List.replicate, List.cons_append, List.nil_append, List.length_cons, List.length_nil, if_true, aSeq, aDropX, aCallX, aCons, aVar, aNil, e1, aIfS, tOr', tNot', aTr, isT, tru, Bool.not_true, Bool.not_false, a2t, aF, aVarM, vl2, aC, ne2, aSkip, aCall, a2, v0, v1, lt, ix0, lr0, i1, i2, aRet, ofOut]
            · unfold F__law_orders_fit a__law_orders_fit
              simp only [runF, en0, List.getElem?_cons_zero, List.getElem?_cons_succ, List.set, List.map_cons, List.map_nil, List.replicate, List.cons_append, List.nil_append, List.length_cons, List.length_nil, if_true, aSeq, aDropX, aCallX, aCons, aVar, aNil, e1, aIfS, tOr', tNot', aTr, isT, tru, Bool.not_true, Bool.not_false, a2t, aF, aVarM, vl2, aC, ne2, aSkip, aCall, a2, v0, v1, lt, ix0, lr0, j1, j2, aRet, ofOut]
          | true =>
            obtain ⟨rows, rfl, n1, b1⟩ := isLB_true ha
            obtain ⟨cols, rfl, n2, b2⟩ := isLB_true hb
            exact ⟨_, _, is_ring_pos h z.r1 z.r5 z.c1 z.c5 ⟨n1, b1⟩ ⟨n2, b2⟩, ring_fits_pos z ⟨n1, b1⟩ ⟨n2, b2⟩, are_orders_pos h z.r1 z.r5 z.c1 z.c5 ⟨n1, b1⟩ ⟨n2, b2⟩, orders_fit_pos z ⟨n1, b1⟩ ⟨n2, b2⟩⟩
    · have ln : dLen [.tup xs] = some (iN xs.length) := rfl
      have ne2 : dNe (iN xs.length) (.int 2) = some true := by
        rw [show (D.int 2) = iN 2 from rfl, neN, beq_false_of_ne h2]; rfl
      refine ⟨false, false, ?_, ?_, ?_, ?_⟩
      · unfold F_is_ring a_is_ring
        simp only [runF, en0, List.getElem?_cons_zero, List.getElem?_cons_succ, List.set, List.map_cons, List.map_nil, List.replicate, List.cons_append, List.nil_append, List.length_cons, List.length_nil, if_true, aSeq, aDropX, aCallX, aCons, aVar, aNil, e1, aIfS, tOr', tNot', aTr, isT, tru, Bool.not_true, Bool.not_false, a2t, aF, aVarM, ln, aC, ne2, aRet, ofOut]
      · unfold F__law_ring_fits a__law_ring_fits
        simp only [runF, en0, List.getElem?_cons_zero, List.getElem?_cons_succ, List.set, List.map_cons, List.map_nil, List.replicate, List.cons_append, List.nil_append, List.length_cons, List.length_nil, if_true, aSeq, aDropX, aCallX, aCons, aVar, aNil, e1, aIfS, tOr', tNot', aTr, isT, tru, Bool.not_true, Bool.not_false, a2t, aF, aVarM, ln, aC, ne2, aRet, ofOut]
      · unfold F_are_orders a_are_orders
        simp only [runF, en0, List.getElem?_cons_zero, List.getElem?_cons_succ, List.set, List.map_cons, List.map_nil, List.replicate, List.cons_append, List.nil_append, List.length_cons, List.length_nil, if_true, aSeq, aDropX, aCallX, aCons, aVar, aNil, e1, aIfS, tOr', tNot', aTr, isT, tru, Bool.not_true, Bool.not_false, a2t, aF, aVarM, ln, aC, ne2, aRet, ofOut]
      · unfold F__law_orders_fit a__law_orders_fit
        simp only [runF, en0, List.getElem?_cons_zero, List.getElem?_cons_succ, List.set, List.map_cons, List.map_nil, List.replicate, List.cons_append, List.nil_append, List.length_cons, List.length_nil, if_true, aSeq, aDropX, aCallX, aCons, aVar, aNil, e1, aIfS, tOr', tNot', aTr, isT, tru, Bool.not_true, Bool.not_false, a2t, aF, aVarM, ln, aC, ne2, aRet, ofOut]
  · have isT := isi_no gp (fun xs q => ht ⟨xs, q⟩) [.im (encT t), .im d] rfl
    refine ⟨false, false, ?_, ?_, ?_, ?_⟩
    · unfold F_is_ring a_is_ring
      simp only [runF, en0, List.getElem?_cons_zero, List.getElem?_cons_succ, List.set, List.map_cons, List.map_nil, List.replicate, List.cons_append, List.nil_append, List.length_cons, List.length_nil, if_true, aSeq, aDropX, aCallX, aCons, aVar, aNil, e1, aIfS, tOr', tNot', aTr, isT, tru, Bool.not_true, Bool.not_false, aC, aRet, ofOut]
    · unfold F__law_ring_fits a__law_ring_fits
      simp only [runF, en0, List.getElem?_cons_zero, List.getElem?_cons_succ, List.set, List.map_cons, List.map_nil, List.replicate, List.cons_append, List.nil_append, List.length_cons, List.length_nil, if_true, aSeq, aDropX, aCallX, aCons, aVar, aNil, e1, aIfS, tOr', tNot', aTr, isT, tru, Bool.not_true, Bool.not_false, aC, aRet, ofOut]
    · unfold F_are_orders a_are_orders
      simp only [runF, en0, List.getElem?_cons_zero, List.getElem?_cons_succ, List.set, List.map_cons, List.map_nil, List.replicate, List.cons_append, List.nil_append, List.length_cons, List.length_nil, if_true, aSeq, aDropX, aCallX, aCons, aVar, aNil, e1, aIfS, tOr', tNot', aTr, isT, tru, Bool.not_true, Bool.not_false, aC, aRet, ofOut]
    · unfold F__law_orders_fit a__law_orders_fit
      simp only [runF, en0, List.getElem?_cons_zero, List.getElem?_cons_succ, List.set, List.map_cons, List.map_nil, List.replicate, List.cons_append, List.nil_append, List.length_cons, List.length_nil, if_true, aSeq, aDropX, aCallX, aCons, aVar, aNil, e1, aIfS, tOr', tNot', aTr, isT, tru, Bool.not_true, Bool.not_false, aC, aRet, ofOut]
end
end Lw
set_option Elab.async false
set_option linter.all false
set_option maxRecDepth 100000
set_option maxHeartbeats 4000000
namespace Rf
open PySem PySem.Spec L2 PyProof.Rows

/-! ## range with a step -1 -/
def dn (lo : Int) (n : Nat) : List D := (List.range n).map fun i => D.int (lo - (i : Nat))
theorem dn_len (lo : Int) (n : Nat) : (dn lo n).length = n := by unfold dn; rw [List.length_map, List.length_range]
theorem dn_get {lo : Int} {n i : Nat} {d : D} (h : (dn lo n)[i]? = some d) : d = .int (lo - (i : Nat)) := by
  unfold dn at h
  rw [List.getElem?_map] at h
  cases z : (List.range n)[i]? with
  | none => rw [z] at h; cases h
  | some j =>
    rw [z] at h
    obtain ⟨hi, e⟩ := List.getElem?_eq_some_iff.mp z
    rw [List.getElem_range] at e
    subst e
    cases h
    rfl
theorem wk_dn {K : Fg} {B1 : Hp} {lo : Int} {n : Nat} : Wk K B1 (Itc lo (-1) n) (dn lo n) (fun _ => True) (YFn fun i => .int (lo + (i : Nat) * (-1))) :=
  ⟨by rw [dn_len]; exact walk_rangeC, fun _ _ => trivial, fun i B' H' x H'' d s s' e y => by
    obtain ⟨rfl, rfl⟩ := y
    rw [dn_get e]
    refine ⟨B', Fit.refl s', ?_⟩
    show Dq K B' (.int (lo + ((i : Nat) : Int) * (-1))) _
    rw [show lo + ((i : Nat) : Int) * (-1) = lo - (i : Nat) by omega]
    exact .int _⟩
def aiR3 (f : AA) : AA := fun E => match f E with
  | some [.int m, .int n, .int c] => if c = -1 ∧ n ≤ 10000 ∧ -10000 ≤ n ∧ m ≤ 10000 ∧ -10000 ≤ m then some (dn m (m - n).toNat) else none
  | _ => none
theorem gb_int3 {K : Fg} {B H : Hp} {vs : List V} {m n c : Int} (h : DmAll K B H vs [.int m, .int n, .int c]) : vs = [.int m, .int n, .int c] := by
  obtain ⟨v, u, z, rfl, h1, h2, h3⟩ := dm3 h
  rw [h1.int, h2.int, h3.int]
theorem gi_range3 {X : Cx} {tg : Expr} {p pos : Pos} {a b c : Expr} {ta : TA} {aa : AA} (hg : Gl X "range") (hm : X.mg "range" = none) (ha : GB X [a, b, c] ta aa)
    (hs : starEach [a, b, c] X.env = (false, eval a X.env) :: starEach [b, c] X.env := by rfl) (hpl : (backTo pos (starEach [b, c] X.env)).any (·.1) = false := by rfl) :
    GI X tg (.Call (.Name "range" p) [a, b, c] [] pos) (iRng3 ta) (aiR3 aa) :=
  ⟨pi_range3 hg hm ha.pa hs hpl, fun B0 H0 E σ B H rp ds z R q => by
    unfold aiR3 at z
    split at z
    · rename_i m n c z1
      split at z
      · rename_i hc
        cases z
        obtain ⟨rfl, c1, c2, c3, c4⟩ := hc
        exact ha.sn B0 H0 E σ B H rp _ z1 _ fun vs B1 H1 f1 h1 => ⟨m, n, -1, (m - n).toNat, gb_int3 h1, RgC.neg (by omega) (by omega) (by omega) (by omega), q _ _ _ B1 H1 f1 wk_dn⟩
      · cases z
    · (cases z), fun E ds z => by
    unfold aiR3 at z
    split at z
    · split at z
      · cases z
        rw [dn_len]
        omega
      · cases z
    · cases z⟩

/-! ## set(xs), xs a list: what the loop makes of it is Gd -/
abbrev so0 (w : World) : Obj := { cls := .type "set", dict := none, data := .set #[] 0 (.fresh 0 0 (!w.params.followText "set-order")) }
abbrev li0 (l : Addr) : Obj := { cls := .type "list_iterator", data := .fields #[.ref l, .int 0 0] }
section
variable {P : Program} {w : World} {A : Around} {E : Value → Shared → Prop} {s : Shared}
theorem call_set_lG {l : Addr} {items : Array Value} {Q : Value → Shared → Prop} (Gd : Heap → Prop) (hl : s.heap.IsList l items)
    (lp : ∀ R : Result → Shared → Prop, (∀ s', Moved [s.heap.objs.size, s.heap.objs.size + 1] (fun a b => b = a) { s with heap := (s.heap.push (so0 w)).push (li0 l) } s' → Gd s'.heap → R (.ok (.ret .none)) s') →
      codeAny (model P w) A.in1.in1 (.builtin "set.update.loop" ⟨[.ref s.heap.objs.size, .ref (s.heap.objs.size + 1)], []⟩) R { s with heap := (s.heap.push (so0 w)).push (li0 l) })
    (h : ∀ (h' : Heap) (tk : Nat), Gd h' → (∀ b o, s.heap.get? b = some o → h'.get? b = some o) → Q (.ref s.heap.objs.size) { s with heap := h', toks := tk }) :
    wpAny (model P w) A (call (.type "set") [.ref l]) Q E s := by
  obtain ⟨c, tl, hmro⟩ := F.called_set.mro
  have hmade := F.called_set.made
  have hsub := F.called_set.sub
  refine wpAny_call (codeAny_of_tree ?_)
  show wpAny _ _ (callAny (.type "set") _) _ _ _
  refine wpAny_pure ⟨Code.quiet_builtin _ (by decide +kernel), codeAny_builtin F.entry_type_call ?_⟩
  rw [Around.under_plain (weight_type_call_type "set" [.ref l] []) rfl]
  have h1 := F.called_set.notType
  have h2 := F.called_set.canCreate
  have hct := F.typeCall_set_1 (.ref l)
  repeat (any_goals (first | assumption | wp_step))
  refine codeAny_mono (code_set_led1 (.ref l) (E := E) (Q₁ := fun obj s₁ => obj = .ref s.heap.objs.size ∧ s₁ = { s with heap := s.heap.push (so0 w) }) ⟨rfl, rfl⟩) fun r s₁ hr => ?_
  cases r with
  | error e => exact hr
  | ok fl =>
    cases fl with
    | ret obj =>
      obtain ⟨rfl, rfl⟩ := hr
      have hS : (s.heap.push (so0 w)).get? s.heap.objs.size = some (so0 w) := Heap.get?_push_size _ rfl
      have hT : Shared.TypeIs { s with heap := s.heap.push (so0 w) } (.ref s.heap.objs.size) "set" := ⟨_, hS, rfl⟩
      have hli := F.called_set.init.lookup
      have hbi := F.called_set.init.bind (.ref s.heap.objs.size)
      repeat (any_goals (first | assumption | wp_step))
      refine codeAny_mono (codeAny_call_builtin (R := wants (fun r s₂ => r = .none ∧ ∃ h' tk, s₂ = { s with heap := h', toks := tk } ∧ Gd h' ∧ (∀ b o, s.heap.get? b = some o → h'.get? b = some o)) E) F.called_set.init.plain F.entry_set_init (check_set_init_1 hT ?_)) fun r₂ s₂ hr₂ => ?_
      · obtain ⟨ol, hol, hcl, nl, hdl⟩ := hl
        obtain ⟨ocls, odict, odata, oslots⟩ := ol
        simp only at hcl hdl
        subst hcl; subst hdl
        have hol' : (s.heap.push (so0 w)).get? l = some { cls := .type "list", dict := odict, data := .seq items nl, slots := oslots } := Heap.get?_push_of_some _ hol
        have hsls := F.sub_list_set
        have hslf := F.sub_list_frozenset
        have hne : (Value.type "list" == Value.type "dict") = false := by decide
        have hl1 : (s.heap.push (so0 w)).IsList l items := ⟨_, hol', rfl, nl, rfl⟩
        unfold Builtin.«set.__init__» noKeywords Builtin.Frozenset.updateFrom
        generalize hPI : pyIter = PI
        wp_walk
        subst hPI
        refine wpAny_pyIter_list hl1 ?_
        refine wpAny_bind (wpAny_runValue ?_)
        have hsz : (s.heap.push (so0 w)).objs.size = s.heap.objs.size + 1 := Heap.size_push ..
        rw [hsz]
        refine lp _ fun s' hm hg => ?_
        obtain ⟨h', g2, d', tk', os'⟩ := s'
        have eg : g2 = s.gens := hm.gens
        have ed : d' = s.drawn := hm.drawn
        have eo : os' = s.os := hm.os
        subst eg; subst ed; subst eo
        show wpAny _ _ _ _ _ _
        refine wpAny_pure ?_
        show wpAny _ _ (ret Value.none) _ _ _
        refine wpAny_pure ⟨rfl, h', tk', rfl, hg, fun b o e => ?_⟩
        have hb0 : b < s.heap.objs.size := Heap.lt_size e
        exact hm.heap b o (by simp only [List.mem_cons, List.not_mem_nil, or_false, not_or]; exact ⟨Nat.ne_of_lt hb0, Nat.ne_of_lt (Nat.lt_succ_of_lt hb0)⟩) (Heap.get?_push_of_some _ (Heap.get?_push_of_some _ e))
      · cases r₂ with
        | error e => exact hr₂
        | ok fl₂ =>
          cases fl₂ with
          | ret r =>
            obtain ⟨rfl, h', tk, rfl, hS', hk'⟩ := hr₂
            repeat (any_goals (first | assumption | wp_step))
            exact h _ _ hS' hk'
          | _ => exact hr₂.elim
    | _ => exact hr.elim
end
/-! ## .. of ints -/
def rSetLI (K : Fg) (w : World) : List V → Hp → VK → Prop := fun xs H Q => ∃ (p : Addr) (ns : List Int), xs = [.ref p] ∧ SqL K H p (ns.map V.int) ∧ ns.length ≤ 1000 ∧
  ∀ (q : Addr) (c : Nat), H q = none → (∃ ks : List Int, ks.Nodup ∧ (∀ k, k ∈ ks ↔ k ∈ ns) ∧ ks.length = c) → Q (.ref q) (upd H q (SetO w q (fun j => decide (j ∈ ns)) c))
theorem cr_setLI {X : Cx} (hc : X.calm = true) : CallR X (.type "set") (rSetLI X.K X.w) := by
  intro pins s σ H vs us Q I r h
  obtain ⟨p, ns, rfl, hs, hl, q⟩ := h
  rw [Vals.ref1 r]
  obtain ⟨its, rv, pt, hz⟩ := I.list hs
  have hi : IntsAre its.toArray.toList ns := ints_of_vals rv
  have hsz : its.toArray.size = ns.length := by
    have z := IntsAre.length hi
    rw [Array.length_toList] at z
    exact z
  have hIL : s.heap.IsList p its.toArray := pt.isList
  have hpS : p < s.heap.objs.size := by
    obtain ⟨o, ho, _⟩ := hIL
    exact Heap.lt_size ho
  refine call_set_lG (Gd := fun h' => ∃ c, c ≤ ns.length ∧ SetR X.w h' s.heap.objs.size (fun j => decide (j ∈ ns)) c) hIL (fun R hR => ?_) fun h' tk ⟨c, hcn, R1⟩ k => ?_
  · have hval : ∀ (i : Nat) (v : Value), its.toArray[i]? = some v → ∃ k t, ns[i]? = some k ∧ v = .int k t := fun i v hv => by
      have hi' : i < ns.length := by rw [← hsz]; exact (Array.getElem?_eq_some_iff.mp hv).1
      obtain ⟨t, e⟩ := PyProof.Rows.IntsAre.int_at hi i v (by rw [Array.getElem?_toList]; exact hv)
      exact ⟨ns[i], t, List.getElem?_eq_getElem hi', by rw [e, List.getD_eq_getElem?_getD, List.getElem?_eq_getElem hi']; rfl⟩
    have hh3 : X.A.in1.in1.in1.handled = none := by simp [I.ok.hd hc]
    have hsp : (s.heap.push (so0 X.w)).objs.size = s.heap.objs.size + 1 := Heap.size_push ..
    refine set_update_ints ((Walks.list hh3 (s.heap.objs.size + 1) p (Nat.ne_of_lt (Nat.lt_succ_of_lt hpS)) its.toArray).toS) s.heap.objs.size (by
        simp only [List.mem_cons, List.not_mem_nil, or_false, not_or]
        exact ⟨Nat.ne_of_lt (Nat.lt_succ_self _), Nat.ne_of_gt hpS⟩) ns hsz (by unfold scanBound; omega) hval (its.toArray.size - 0) 0 _ (by omega) (Nat.zero_le _)
      ⟨⟨li0 p, by rw [← hsp]; exact Heap.get?_push_size _ rfl, rfl, rfl⟩, (hIL.push _).push _⟩ ⟨0, Nat.le_refl 0, setR_new_at (Heap.get?_push_of_some _ (Heap.get?_push_size _ rfl))⟩ fun s' c hm hcn hS => ?_
    rw [hsz] at hcn
    exact hR s' hm ⟨c, hcn, hS⟩
  · have hks : ∃ ks : List Int, ks.Nodup ∧ (∀ k, k ∈ ks ↔ k ∈ ns) ∧ ks.length = c := by
      obtain ⟨o, es, ep, t, ho, hex, hdt, g, nd, hm2, hb, hf, hn, hr, hl2⟩ := R1
      exact ⟨es.toList.map keyOf, nd, fun j => by rw [← hm2 j, decide_eq_true_eq], by rw [List.length_map, Array.length_toList]; exact hn⟩
    exact ⟨.ref _, upd H s.heap.objs.size (SetO X.w s.heap.objs.size (fun j => decide (j ∈ ns)) c), I.laid (t' := tk) k (Nat.le_refl _) (setO_new R1), rfl, q _ c (I.hok.fresh (Nat.le_refl _)) hks⟩
def alSortSetL (fa : AE) : AA := fun E => match fa E with
  | some (.lst ds) => match intsOf ds with
    | some ns => if ns.length ≤ 60 then some ((sortI (undup ns)).map D.int) else none
    | none => none
  | _ => none
section
variable {X : Cx} {e : Expr} {te : TE} {ae : AE} {p p2 q pos : Pos}
abbrev tSetL (K : Fg) (w : World) (te : TE) : TA := tCons (tCB (rSetLI K w) (tCons te tNil)) tNil
theorem pa_setL (ha : PE X e te) (hg : Gl X "set") (hm : X.mg "set" = none) (hc : X.calm = true) (na : starEach [e] X.env = (false, eval e X.env) :: starEach [] X.env) : PA X [.Call (.Name "set" p2) [e] [] q] (tSetL X.K X.w te) :=
  pa_cons (pe_callTy (cr_setLI hc) hg hm (by decide +kernel) (pa_cons ha pa_nil na) (by decide) (by decide) na rfl) pa_nil rfl
theorem setL_step {K : Fg} {w : World} {B0 H0 : Hp} {E : En} {σ : L2.St} {B H : Hp} (h : SnM K te ae) (rp : Rep K B0 H0 E σ B H) {ds : List D} {ns : List Int} (z : ae E = some (.lst ds)) (zi : intsOf ds = some ns) (hl : ns.length ≤ 1000) {R : List V → Hp → Prop}
    (hR : ∀ (p : Addr) (B1 H1 : Hp), Fit B H B1 H1 → H1 p = none → R [.ref p] (upd H1 p (SetO w p (fun j => decide (j ∈ ns)) (undup ns).length))) : tSetL K w te σ H R := by
  refine h B0 H0 E σ B H rp _ z _ fun v B1 H1 f1 h1 => ?_
  obtain ⟨a, us, rfl, hh1, q1⟩ := h1.lst f1.bh
  rw [intsOf_eq zi] at q1
  rw [q1.ints] at hh1
  refine ⟨a, ns, rfl, SqL.of hh1, hl, fun p c hp hk => ?_⟩
  obtain ⟨ks, n1, n2, n3⟩ := hk
  have : c = (undup ns).length := by
    rw [← n3]
    exact nodup_len n1 (nodup_undup ns) fun k => by rw [n2 k, mem_undup]
  subst this
  exact hR p B1 H1 f1 hp
theorem gl_sortsetL (h : GM X e te ae) (hg : Gl X "sorted") (hm : X.mg "sorted" = none) (hg2 : Gl X "set") (hm2 : X.mg "set" = none) (hc : X.calm = true := by rfl) (na : starEach [e] X.env = (false, eval e X.env) :: starEach [] X.env := by rfl) :
    GL X (.Call (.Name "sorted" p) [.Call (.Name "set" p2) [e] [] q] [] pos) (tCB (rSortedSet X.w) (tSetL X.K X.w te)) (alSortSetL ae) :=
  ⟨pe_callB (cr_sortedSet hc) hg hm (by decide +kernel) (pa_setL h.pe hg2 hm2 hc na) (by decide) (by decide) rfl rfl, fun B0 H0 E σ B H rp d z Q q => by
    unfold alSortSetL at z
    split at z
    · rename_i ds z1
      split at z
      · rename_i ns z2
        split at z
        · rename_i hl
          cases z
          show tSetL X.K X.w te σ H fun vs H2 => rSortedSet X.w vs H2 Q
          refine setL_step h.sn rp z1 z2 (by omega) fun p B1 H1 f1 hp => ?_
          have hul := undup_len_le ns
          refine ⟨p, _, _, rfl, upd_same, by omega, fun ks r hpw hmem hlen hr => ?_⟩
          have f2 := f1.trans (Fit.grow f1.bh (same_new hp) : Fit B1 H1 B1 (upd H1 p (SetO X.w p (fun j => decide (j ∈ ns)) (undup ns).length)))
          have e : ks = sortI (undup ns) := by
            refine sorted_same (hpw.imp fun h => Int.le_of_lt h) (sortI_sorted _) ?_
            refine List.Perm.trans ?_ (sortI_perm _).symm
            refine (List.perm_ext_iff_of_nodup (hpw.imp fun h => Int.ne_of_lt h) (nodup_undup ns)).mpr fun k => ?_
            rw [hmem k, decide_eq_true_eq, mem_undup]
          subst e
          exact q r _ B1 _ (f2.trans (Fit.grow f2.bh (same_new hr))) (f2.free hr) (f2.bh.free hr) upd_same (DqAll.of_ints _)
        · cases z
      · cases z
    · cases z⟩
end
/-! ## xs[k] -= e -/
def rGetL (K : Fg) : R2 := fun x y H Q => ∃ p xs i v, x = .ref p ∧ y = .int i ∧ SqL K H p xs ∧ 0 ≤ i ∧ i.toNat < 100000 ∧ xs[i.toNat]? = some v ∧ Q v H
theorem get_list {X : Cx} : PGet X (rGetL X.K) := by
  intro pins s σ H x y v u Q I rx ry h
  obtain ⟨p, xs, i, z, rfl, rfl, hq, h0, hb, he, q⟩ := h
  cases rx
  obtain ⟨t, rfl⟩ := ry
  obtain ⟨its, r, pl, hz⟩ := I.list hq
  obtain ⟨w, ew, rw'⟩ := r.get he
  exact getItem_listL pl.isList h0 (by omega) ew ⟨z, H, I, rw', q⟩
def aSubIx (i : Nat) (fk f : AE) : AS := fun E => match E[i]? with
  | some (.mu ds) => match fk E with
    | some (.int n) => if 0 ≤ n ∧ n.toNat < ds.length ∧ n.toNat < 100000 then (match ds[n.toNat]? with
      | some (.int a) => match f E with
        | some (.int b) => some (.nx (E.set i (.mu (ds.set n.toNat (.int (a - b))))))
        | _ => none
      | _ => none) else none
    | _ => none
  | _ => none
section
variable {X : Cx} {W : WX} {i : Nat} {e : Expr} {te : TE} {ae : AE} {pos : Pos}
theorem sn_subIx {K : Fg} {mg : Str → Option Value} {tk : TE} {fk : AE} (h : SnM K te ae) (hk : SnM K tk fk) : SnS K mg W (tAugS (tVar i) tk te (rGetL K) (ipI fun i j => i - j) rSetL) (aSubIx i fk ae) := fun B0 H0 E σ B H rp o z De q => by
  unfold aSubIx at z
  split at z
  · rename_i ds y1
    split at z
    · rename_i n y2
      split at z
      · rename_i hc
        split at z
        · rename_i a y3
          split at z
          · rename_i b y4
            cases z
            obtain ⟨p, vs, e1, _, _, hh, _⟩ := rp.mu y1
            refine ⟨.ref p, e1, hk B0 H0 E σ B H rp _ y2 _ fun u B2 H2 f2 hu => ?_⟩
            have rp2 := rp.on f2
            obtain ⟨p2, vs2, e2, _, _, hh2, hd2⟩ := rp2.mu y1
            rw [e1] at e2
            cases e2
            obtain ⟨v, hv, hq⟩ := hd2.get y3
            have hv' : v = .int a := by cases hq; rfl
            subst hv'
            refine ⟨p, vs2, n, .int a, rfl, hu.int, SqL.of hh2, hc.1, hc.2.2, hv, ?_⟩
            refine h B0 H0 E σ B2 H2 rp2 _ y4 _ fun x B3 H3 f3 hx => ⟨a, b, rfl, hx.int, ?_⟩
            have rp3 := rp2.on f3
            obtain ⟨p3, vs3, e3, _, _, hh3, hd3⟩ := rp3.mu y1
            rw [e1] at e3
            cases e3
            refine ⟨p, vs3, n, n.toNat, rfl, hu.int, hh3, ?_, q σ B3 _ (rp3.write y1 e1 (hd3.set (.int (a - b)) n.toNat))⟩
            unfold ixN
            rw [if_pos hc.1, if_pos (by rw [hd3.length]; omega)]
          · cases z
        · cases z
      · cases z
    · cases z
  · cases z
theorem gs_subIx {x : Str} {k : Expr} {tk : TE} {fk : AE} {p1 p2 : Pos} (hN : X.N[i]? = some x) (h : GM X e te ae) (hk : GM X k tk fk) (hv : Vis X.env.scope x := by first | exact Or.inl rfl | exact Or.inr (Or.inl rfl) | exact Or.inr (Or.inr rfl))
    (hd : (x == ("__debug__" : Str)) = false := by decide) (hcd : (x == ("__classdict__" : Str)) = false := by decide)
    (ha : ∀ ov iv new, augStore k ov iv new = (do holding [new, ov, iv] (setItem ov iv new); release [new, ov, iv] []; pure .next) := by intros; rfl) :
    GS X W (.AugAssign (.Subscript (.Name x p1) k p2) .Sub e pos) (tAugS (tVar i) tk te (rGetL X.K) (ipI fun i j => i - j) rSetL) (aSubIx i fk ae) :=
  ⟨ps_augS (pe_var hN hv hd hcd) hk.pe get_list h.pe ip_sub set_list ha, sn_subIx h.sn hk.sn⟩
end
end Rf
set_option Elab.async false
set_option linter.all false
set_option maxRecDepth 100000
set_option maxHeartbeats 4000000
namespace Rf
open PySem PySem.W L2 PyProof.Rows

/-! ## d < e of data -/
def dLtP (d e : D) : Option Bool := if pl d 8 && pl e 8 && alike (toPy d) (toPy e) && !isNon d then some (dlt d e) else none
def rLtP (K : Fg) : R2 := fun x y H Q => ∃ d e : PyData, Dp K H x d ∧ Dp K H y e ∧ alike d e = true ∧ d ≠ .none ∧ d.depth ≤ 8 ∧ Q (.bl (dataLt d e)) H
theorem op_ltP {X : Cx} (hu : X.A.units + 64 < cLine) : OpR X (compareOp .Lt) (rLtP X.K) := by
  intro pins s σ H x y v u Q I rx ry h
  obtain ⟨d, e, hd, he, ha, hn, hp, q⟩ := h
  obtain ⟨as, r1⟩ := Dp.reads I d x v hd rx
  obtain ⟨bs, r2⟩ := Dp.reads I e y u he ry
  exact lt_data r1 r2 ha hn (by omega) ⟨.bl (dataLt d e), H, I, rfl, q⟩
theorem r2_ltP {K : Fg} : R2S K (rLtP K) (bv dLtP) := fun B H v1 v2 d1 d2 d s a b e Q q => by
  unfold bv dLtP at e
  split at e
  · rename_i z y
    split at y
    · rename_i hc
      cases e
      cases y
      rw [Bool.and_eq_true, Bool.and_eq_true, Bool.and_eq_true] at hc
      obtain ⟨⟨⟨c1, c2⟩, c3⟩, c4⟩ := hc
      refine ⟨toPy d1, toPy d2, a.dp s c1, b.dp s c2, c3, ?_, (pl_plain d1 8 c1).2, q _ B H (Fit.refl s) (.bl _)⟩
      cases d1 <;> simp_all [toPy, isNon, pl]
    · cases y
  · cases e

/-! ## max of one -/
def maxF (x : D) (xs : List D) : D := xs.foldl (fun a y => if dlt a y then y else a) x
def dMaxP : List D → Option D
  | [.lst (x :: xs)] => if kin (x :: xs) then some (maxF x xs) else none
  | [.tup (x :: xs)] => if kin (x :: xs) then some (maxF x xs) else none
  | _ => none
theorem toPy_max (x : D) (xs : List D) : toPy (maxF x xs) = maxD (toPy x) (toPys xs) := by
  unfold maxF maxD
  rw [toPys_map]
  induction xs generalizing x with
  | nil => rfl
  | cons y ys ih =>
    rw [List.foldl_cons, List.map_cons, List.foldl_cons, ih]
    unfold dlt
    split <;> rfl
theorem maxF_mem (x : D) (xs : List D) : maxF x xs ∈ x :: xs := by
  unfold maxF
  induction xs generalizing x with
  | nil => simp
  | cons y ys ih =>
    rw [List.foldl_cons]
    have := ih (if dlt x y then y else x)
    rcases List.mem_cons.mp this with h | h
    · rw [h]; split <;> simp
    · exact List.mem_cons_of_mem _ (List.mem_cons_of_mem _ h)
def rMaxP (K : Fg) : List V → Hp → VK → Prop := fun vs H Q => ∃ (a : Addr) (xs : List V) (d : PyData) (ds : List PyData), vs = [.ref a] ∧ (SqL K H a xs ∨ SqT K H a xs) ∧ DpAll K H xs (d :: ds) ∧ AlikeAll (d :: ds) ∧ PyData.depthAll (d :: ds) ≤ 8 ∧
  ∀ (i : Nat) (v : V), xs[i]? = some v → (d :: ds)[i]? = some (maxD d ds) → Q v H
theorem cr_maxP {X : Cx} (hc : X.calm = true) (hu : X.A.units + 64 < cLine) : CallR X (.builtin "max") (rMaxP X.K) := by
  intro pins s σ H vs us Q I r h
  obtain ⟨a, xs, d, ds, rfl, hs, hd, hal, hdep, q⟩ := h
  rw [Vals.ref1 r]
  have key : ∀ (its : List Value), Vals xs its → ∀ (i : Nat) (v : Value) (h' : Heap) (tk : Nat) (bs : List Addr), its.toArray[i]? = some v → Reads h' v (maxD d ds) bs → (∀ b o, s.heap.get? b = some o → h'.get? b = some o) → EP X pins σ Q v { s with heap := h', toks := tk } := by
    intro its rv i v h' tk bs hv hr hk
    have I2 := I.kept (t' := tk) hk
    obtain ⟨x, hx, rx⟩ := vals_get rv (by simpa using hv)
    obtain ⟨e, he, hp⟩ := dpAll_get hd hx
    obtain ⟨cs, hr2⟩ := Dp.reads I2 e x v hp rx
    have := (Reads.unique hr e cs hr2).1
    subst this
    exact ⟨x, H, I2, rx, q i x hx he⟩
  have hub : X.A.units + 1 + PyData.depthAll (d :: ds) < cLine := by omega
  rcases hs with hs | hs
  · obtain ⟨its, rv, hl, hz⟩ := I.list hs
    obtain ⟨as, hra⟩ := Dp.readsAll I (d :: ds) _ its hd rv
    exact max_list_data (I.ok.hd hc) hl.isList (by simpa using hra) hal hub fun i v h' tk bs hv hr hk => key its rv i v h' tk bs hv hr hk
  · obtain ⟨its, rv, hl, hz⟩ := I.tuple hs
    obtain ⟨as, hra⟩ := Dp.readsAll I (d :: ds) _ its hd rv
    exact max_tuple_data (I.ok.hd hc) hl (by simpa using hra) hal hub fun i v h' tk bs hv hr hk => key its rv i v h' tk bs hv hr hk
theorem cs_maxP {K : Fg} : CS K (rMaxP K) dMaxP := fun B H vs ds d s h e Q q => by
  have key : ∀ (x : D) (xs : List D) (us : List V) (a : Addr), kin (x :: xs) = true → DqAll K B us (x :: xs) → (SqL K H a us ∨ SqT K H a us) → d = maxF x xs → rMaxP K [.ref a] H Q := by
    intro x xs us a hk hd hs ed
    obtain ⟨hp, hal⟩ := kin_of hk
    have hdp := dqAll_dp _ _ 8 (hd.mono s) hp
    rw [toPys] at hdp hal
    refine ⟨a, us, toPy x, toPys xs, rfl, hs, hdp, hal, ?_, fun i v hv hm => ?_⟩
    · have := (pls_plain (x :: xs) 8 hp).2
      rw [toPys] at this
      exact this
    · have hm' : (toPys (x :: xs))[i]? = some (toPy (maxF x xs)) := by rw [toPys, toPy_max]; exact hm
      rw [toPys_map, List.getElem?_map] at hm'
      cases z : (x :: xs)[i]? with
      | none => rw [z] at hm'; cases hm'
      | some y =>
        rw [z] at hm'
        have e1 : toPy y = toPy (maxF x xs) := Option.some.inj hm'
        have e2 := toPy_inj y (maxF x xs) 8 (pls_at hp (List.mem_of_getElem? z)) (pls_at hp (maxF_mem x xs)) e1
        obtain ⟨v', hv', hq⟩ := hd.get z
        rw [hv] at hv'
        cases hv'
        rw [ed, ← e2] at q
        exact q v B H (Fit.refl s) hq
  unfold dMaxP at e
  split at e
  · rename_i x xs
    split at e
    · rename_i hk
      cases e
      obtain ⟨v, rfl, h1⟩ := dm1 h
      obtain ⟨p, us, rfl, hh, hd⟩ := h1.lst s
      exact key x xs us p hk hd (.inl (SqL.of hh)) rfl
    · cases e
  · rename_i x xs
    split at e
    · rename_i hk
      cases e
      obtain ⟨v, rfl, h1⟩ := dm1 h
      obtain ⟨p, us, rfl, hb, hh, hd⟩ := h1.tup s
      exact key x xs us p hk hd (.inr (SqT.of hh)) rfl
    · cases e
  · cases e

/-! ## sum of a tuple -/
def rSumT (K : Fg) : List V → Hp → VK → Prop := fun vs H Q => ∃ (a : Addr) (ns : List Int), vs = [V.ref a] ∧ SqT K H a (ns.map V.int) ∧ ns.length ≤ 1000 ∧ (∀ n ∈ ns, n.natAbs ≤ 1000000) ∧ Q (.int ns.sum) H
theorem pre_sum (ns : List Int) : ∀ n, n ≤ ns.length → preSum (fun i => ns.getD i 0) n = (ns.take n).sum
  | 0, _ => by simp [preSum]
  | n + 1, h => by
    rw [preSum, pre_sum ns n (by omega), List.take_add_one, List.getElem?_eq_getElem (by omega), List.sum_append, List.getD_eq_getElem?_getD, List.getElem?_eq_getElem (by omega)]
    simp
theorem sum_abs : ∀ (ns : List Int) (m : Nat), (∀ n ∈ ns, n.natAbs ≤ m) → ns.sum.natAbs ≤ ns.length * m
  | [], _, _ => by simp
  | n :: ns, m, h => by
    have ih := sum_abs ns m fun x hx => h x (by simp [hx])
    have h1 := h n (by simp)
    rw [List.sum_cons, List.length_cons, Nat.succ_mul]
    omega
theorem cr_sumT {X : Cx} (hc : X.calm = true) : CallR X (.builtin "sum") (rSumT X.K) := by
  intro pins s σ H vs us Q I r h
  obtain ⟨a, ns, rfl, hs, hl, hb, q⟩ := h
  obtain ⟨its, rv, pt, hz⟩ := I.tuple hs
  rw [Vals.ref1 r]
  have hi : IntsAre its.toArray.toList ns := ints_of_vals rv
  have hsz : its.toArray.size = ns.length := by
    have z := IntsAre.length hi
    rw [Array.length_toList] at z
    exact z
  have pt : s.heap.IsTuple a its.toArray := pt
  have haS : a < s.heap.objs.size := by
    obtain ⟨o, ho, _⟩ := pt
    exact Heap.lt_size ho
  refine call_sum_walk (wpAny_pyIter_tuple pt ?_)
  have hh : X.A.in1.handled = none := by simp [I.ok.hd hc]
  refine ⟨s.heap.objs.size, _, _, _, _, _, fun i => ns.getD i 0, rfl, Walks.tuple hh s.heap.objs.size a (Nat.ne_of_lt haS) its.toArray, ⟨⟨_, Heap.get?_push_size _ rfl, rfl, rfl⟩, pt.push _⟩, fun b hb => ?_, fun i v hv => ?_, fun j hj => ?_, fun h' tk t' hk => ?_⟩
  · show b < (s.heap.push _).objs.size
    rw [Heap.size_push]
    simp only [List.mem_cons, List.not_mem_nil, or_false] at hb
    rcases hb with rfl | rfl
    · exact Nat.lt_succ_self _
    · exact Nat.lt_succ_of_lt haS
  · have hi' : i < ns.length := by rw [← hsz]; exact (Array.getElem?_eq_some_iff.mp hv).1
    obtain ⟨t, e⟩ := PyProof.Rows.IntsAre.int_at hi i v (by rw [Array.getElem?_toList]; exact hv)
    exact ⟨t, e⟩
  · rw [hsz] at hj
    have e1 : ns.getD j 0 ∈ ns := by rw [List.getD_eq_getElem?_getD, List.getElem?_eq_getElem hj]; exact List.getElem_mem hj
    have b1 := hb _ e1
    have b2 := sum_abs (ns.take (j + 1)) 1000000 fun n hn => hb n (List.mem_of_mem_take hn)
    rw [List.length_take] at b2
    have b3 : min (j + 1) ns.length * 1000000 ≤ 1000 * 1000000 := Nat.mul_le_mul_right _ (by omega)
    rw [pre_sum ns (j + 1) (by omega)]
    exact ⟨⟨show -(2 ^ 63) ≤ ns.getD j 0 by omega, show ns.getD j 0 < 2 ^ 63 by omega⟩, ⟨by omega, by omega⟩⟩
  · rw [hsz, pre_sum ns _ (Nat.le_refl _), List.take_length]
    refine ⟨.int _, H, I.kept fun b o e => ?_, ⟨_, rfl⟩, q⟩
    have hlt := Heap.lt_size e
    exact hk b o (by simp only [List.mem_cons, List.not_mem_nil, or_false]; exact Nat.ne_of_lt hlt) (Heap.get?_push_of_some _ e)
def dSumT : List D → Option D
  | [.tup ds] => match intsOf ds with
    | some ns => if ns.length ≤ 1000 ∧ (∀ n ∈ ns, n.natAbs ≤ 1000000) then some (.int ns.sum) else none
    | none => none
  | _ => none
theorem cs_sumT {K : Fg} : CS K (rSumT K) dSumT := fun B H vs ds d s h e Q q => by
  unfold dSumT at e
  split at e
  · rename_i ds
    cases z : intsOf ds with
    | none => rw [z] at e; cases e
    | some ns =>
      rw [z] at e
      dsimp only at e
      split at e
      · rename_i hc
        cases e
        obtain ⟨v, rfl, h1⟩ := dm1 h
        obtain ⟨p, us, rfl, hb, hh1, q1⟩ := h1.tup s
        rw [intsOf_eq z] at q1
        rw [q1.ints] at hh1
        exact ⟨p, ns, rfl, SqT.of hh1, hc.1, hc.2, q _ B H (Fit.refl s) (.int _)⟩
      · cases e
  · cases e
end Rf
set_option Elab.async false
set_option linter.all false
set_option maxRecDepth 100000
set_option maxHeartbeats 4000000
namespace Rf
open PySem PySem.Spec L2 PyProof.Rows

/-! ## a tuple times 1 -/
theorem tuple_mul1 (l : Addr) (items : Array Value) (n : Nat) (dd : Option Addr) (sl : Array (Option Value)) (u : Tok) :
    Meets (Builtin.«tuple.__mul__» ⟨[.ref l, .int 1 u], []⟩) (fun _ R s => s.heap.get? l = some { cls := .type "tuple", dict := dd, data := .seq items n, slots := sl } ∧ R (.ok (.ret (Value.ref l))) s) :=
  .of_wp fun prog w A R s h => by
    obtain ⟨hp, g, d, tk, os⟩ := s
    obtain ⟨hl, h⟩ := h
    have f1 := AutoSeq1.idx_int
    have c0 : (decide ((1 : Int) < -(2 ^ 63)) || decide ((1 : Int) ≥ 2 ^ 63)) = false := by decide
    have c1 : (items.isEmpty || (1 : Int) == 1) = true := by simp
    wp_walk using wpAny_loadPart' hl
    repeat (first
      | (refine wpAny_ite_false (decide_eq_false (by rw [c0]; exact Bool.false_ne_true)) ?_; wp_walk using wpAny_loadPart' hl)
      | (refine wpAny_ite_true (decide_eq_true c1) ?_; wp_walk using wpAny_loadPart' hl))
    exact ⟨_, rfl, h⟩
def rRep1 (K : Fg) : R2 := fun x y H Q => ∃ l xs, x = .ref l ∧ y = .int 1 ∧ SqT K H l xs ∧ Q (.ref l) H
theorem op_rep1 {X : Cx} : OpR X (binaryOp .Mult) (rRep1 X.K) := by
  intro pins s σ H x y v u Q I rx ry h
  obtain ⟨l, xs, rfl, rfl, hT, q⟩ := h
  cases rx
  obtain ⟨t, rfl⟩ := ry
  obtain ⟨its, r, ⟨⟨cls, dd, data, sl⟩, ho, hc, n, hd⟩, hs⟩ := I.tuple hT
  simp only at hc hd
  subst hc hd
  exact wpAny_binaryOp_repeat_ref (T := "tuple") (U := "int") (by decide) ⟨_, ho, rfl⟩ (fun s' => typeIs_int s' 1 t) noFill_tuple_mul F.fills_int_mul F.slot_int_rmul repeat_tuple F.slot_int_index.lookup
    (call_meets F.slot_int_rmul (typeIs_int s 1 t) F.entry_int_rmul (F.args_int_rmul_2 _ _) (int_rmul_tuple 1 t l its.toArray n dd sl)
      ⟨ho, rfl, ⟨_, ho, rfl⟩, call_meets F.slot_tuple_mul ⟨_, ho, rfl⟩ F.entry_tuple_mul (F.args_tuple_mul_2 _ _) (tuple_mul1 l its.toArray n dd sl t) ⟨ho, ⟨.ref l, H, I, rfl, q⟩⟩⟩)
def dMulT (x y : D) : Option D := match x, y with
  | .tup xs, .int k => if k = 1 then some (.tup xs) else if !xs.isEmpty && decide (2 ≤ k) && decide (k ≤ 1000) && decide (xs.length ≤ 1000) then some (.tup (List.replicate k.toNat xs).flatten) else none
  | _, _ => none
def rMulT (K : Fg) : R2 := fun x y H Q => rRep1 K x y H Q ∨ rMulA K x y H Q
theorem op_mulT {X : Cx} : OpR X (binaryOp .Mult) (rMulT X.K) := op_rep1.or op_mulA
theorem r2_mulT {K : Fg} : R2S K (rMulT K) dMulT := fun B H v1 v2 d1 d2 d s a b e Q q => by
  unfold dMulT at e
  split at e
  · rename_i xs k
    split at e
    · rename_i hk
      subst hk
      cases e
      obtain ⟨p, us, rfl, hb, hh, hd⟩ := a.tup s
      exact .inl ⟨p, us, rfl, b.int, SqT.of hh, q _ B H (Fit.refl s) (.tup hb hd)⟩
    · refine .inr (r2_mul B H v1 v2 (.tup xs) (.int k) d s a b ?_ Q q)
      exact e
  · cases e
end Rf
set_option Elab.async false
set_option linter.all false
set_option maxRecDepth 100000
set_option maxHeartbeats 4000000
namespace Rf
open PySem L2

/-! ## a suite that goes on: the exception stands in slot i as an object -/
def aIsX (i : Nat) (a : Addr) (b : Bool) : AE := fun E => match E[i]? with
  | some (.im (.obj a')) => if a' = a then some (.bl b) else none
  | _ => none
theorem QE.ge {X : Cx} {e : Expr} {te : TE} {i : Nat} {a : Addr} {b : Bool} (h : QE X e te i a b) : GE X e te (aIsX i a b) := ⟨h.pe, fun B0 H0 E σ B H rp d z Q q => by
  unfold aIsX at z
  split at z
  · rename_i a' y
    split at z
    · rename_i ha
      subst ha
      cases z
      obtain ⟨v, e1, hq⟩ := rp.im y
      have hv : v = .ref a' := by cases hq; rfl
      subst hv
      exact h.ev σ H Q e1 (q _ B H (Fit.refl rp.bh) (.bl b))
    · cases z
  · cases z⟩
def liftO (i : Nat) (a : Addr) : Option Out → Option Out
  | some (.nx E) => some (.nx (E.set i (.im (.obj a))))
  | some (.rt d) => some (.rt d)
  | _ => none
theorem Rep.held {K : Fg} {B0 H0 B H : Hp} {E : En} {σ : L2.St} (r : Rep K B0 H0 E σ B H) {i : Nat} {a : Addr} (h : σ[i]? = some (some (.ref a))) : Rep K B0 H0 (E.set i (.im (.obj a))) σ B H := by
  have := r.setIm (i := i) (v := .ref a) (d := .obj a) (.obj a)
  have e : σ.set i (some (.ref a)) = σ := by
    apply List.ext_getElem?
    intro j
    by_cases hj : j = i
    · subst hj
      rw [h, List.getElem?_set_self (List.getElem?_eq_some_iff.mp h).1]
    · rw [List.getElem?_set_ne (Ne.symm hj)]
  rw [e] at this
  exact this
theorem set_past {E : En} {i j : Nat} {u v w : Sl} (h : i ≠ j) : ((E.set i w).set j v).set i u = (E.set j v).set i u := by rw [List.set_comm w v h, List.set_set]
/-- as: the suite's meaning, free of the exception's place -/
structure QG (X : Cx) (b : List Stmt) (t : TS) (i : Nat) (a : Addr) (as : AS) : Prop where
  ps : PSs X b t
  nx : ∀ B0 H0 E σ B H, Rep X.K B0 H0 E σ B H → σ[i]? = some (some (.ref a)) → i < E.length → ∀ E2, as (E.set i .no) = some (.nx E2) → ∀ De : Ends, (∀ σ' B' H', Rep X.K B0 H0 (E2.set i .no) (σ'.set i none) B' H' → De.nx σ' H') → t De σ H
  rt : ∀ B0 H0 E σ B H, Rep X.K B0 H0 E σ B H → σ[i]? = some (some (.ref a)) → i < E.length → ∀ d, as (E.set i .no) = some (.rt d) → ∀ De : Ends, (∀ v B' H', Fit B0 H0 B' H' → Dq X.K B' v d → De.rt v H') → t De σ H
theorem qg_of {X : Cx} {W : WX} {b : List Stmt} {t : TS} {i : Nat} {a : Addr} {as' as : AS} (h : GSs X W b t as') (u : ∀ E : En, i < E.length → as' (E.set i (.im (.obj a))) = liftO i a (as (E.set i .no))) : QG X b t i a as :=
  ⟨h.ps, fun B0 H0 E σ B H rp hi hl E2 e De q => by
    have z := u E hl
    rw [e] at z
    refine h.sn B0 H0 _ σ B H (rp.held hi) _ z De fun σ' B' H' r' => q σ' B' H' ?_
    have r2 := r'.wipeS1 i
    rw [List.set_set] at r2
    exact r2, fun B0 H0 E σ B H rp hi hl d e De q => by
    have z := u E hl
    rw [e] at z
    exact h.sn B0 H0 _ σ B H (rp.held hi) _ z De q⟩
abbrev Gg := List (Str × (Addr → Str → TS) × (Str → AS))
def clsG (ca : Str → Addr) (cl : List Str) (g : Gg) : Cls := g.map fun p => (.ref (ca p.1), tsOf ca cl p.2.1)
def hdG : List (Str × (Str → AS)) → Str → Option AS
  | [], _ => none
  | (c, g) :: r, x => if subX x c then some (g x) else hdG r x
def aTryG (i : Nat) (cl : List Str) (ab : AS) (g : List (Str × (Str → AS))) : AS := fun E => match ab E with
  | some (.er (.own x) E1) => if x ∈ cl then (match hdG g x with
    | some as => if i < E1.length then (match as (E1.set i .no) with
      | some (.nx E2) => some (.nx (E2.set i .no))
      | some (.rt d) => some (.rt d)
      | _ => none) else none
    | none => some (.er (.own x) E1)) else none
  | some (.er (.line _) _) => none
  | r => r
inductive HdG (X : Cx) (n : Str) (i : Nat) (ca : Str → Addr) (cl : List Str) : List ExceptHandler → Gg → Prop
  | nil : HdG X n i ca cl [] []
  | cons {y : Str} {t : Addr → Str → TS} {g : Str → AS} {b0 : Stmt} {suite : List Stmt} {np ps : Pos} {hds : List ExceptHandler} {l : Gg} (hy : y ∈ cl) (hg : Gl X y) (hdb : (y == ("__debug__" : Str)) = false)
      (hq : ∀ (a : Addr) (x : Str) (hx : x ∈ cl) (oe : Obj) (pn : List (Addr × Obj)), Zc (.ref (ca x)) none oe → (∃ vs, oe.data = .fields vs) → QG (X.suite a ((a, oe) :: pn)) (b0 :: suite) (t a x) i a (g x)) (r : HdG X n i ca cl hds l) :
      HdG X n i ca cl (.ExceptHandler (some (.Name y np)) (some n) (b0 :: suite) ps :: hds) ((y, t, g) :: l)
section
variable {X : Cx} {n : Str} {i : Nat} {ca : Str → Addr} {cl : List Str} {hds : List ExceptHandler} {l : Gg}
theorem HdG.nam (xt : XT X.K X.mg ca cl) (h : HdG X n i ca cl hds l) : HdN X n hds (clsG ca cl l) := by
  induction h with
  | nil => exact .nil
  | cons hy hg hdb hq r ih =>
    refine .cons ⟨hg, hdb, .inl (xt.ex _ hy).g⟩ (fun a oe cls d pn hz hf => ?_) ih
    refine pss_ex fun x hx => ?_
    obtain ⟨hx, rfl, rfl⟩ := hx
    exact (hq a x hx oe pn hz hf).ps
theorem HdG.wish {W : WX} {B0 H0 B1 H1 : Hp} {De : Ends} {E1 : En} {σ1 : L2.St} {o : Out} (xt : XT X.K X.mg ca cl) (hh : HdG X n i ca cl hds l) {x : Str} (hm : x ∈ cl) (h1 : X.mg x = some (.ref (ca x)))
    (z : (match hdG (l.map fun p => (p.1, p.2.2)) x with
      | some as => if i < E1.length then (match as (E1.set i .no) with
        | some (.nx E2) => some (.nx (E2.set i .no))
        | some (.rt d) => some (.rt d)
        | _ => none) else none
      | none => some (.er (.own x) E1)) = some o) (q : Goes X.K X.mg B0 H0 De W o) (r1 : Rep X.K B0 H0 E1 σ1 B1 H1) : wNam X.K i W De (clsG ca cl l) (.ref (ca x)) none σ1 H1 := by
  induction hh with
  | nil =>
    cases z
    exact q _ none σ1 B1 H1 ⟨h1, rfl⟩ r1
  | @cons y2 t2 g2 b0 suite np ps hds2 l2 hy hg hdb hq r ih =>
    have ex := xt.exm x hm y2 hy
    cases es : subX x y2 with
    | false =>
      rw [es] at ex
      refine ⟨false, ex, fun h => (nomatch h), fun _ => ih ?_⟩
      have e2 : hdG (((y2, t2, g2) :: l2).map fun p => (p.1, p.2.2)) x = hdG (l2.map fun p => (p.1, p.2.2)) x := by
        show (if subX x y2 then some (g2 x) else _) = _
        rw [es]
        rfl
      rw [e2] at z
      exact z
    | true =>
      rw [es] at ex
      refine ⟨true, ex, fun _ a ha => ?_, fun h => (nomatch h)⟩
      have e2 : hdG (((y2, t2, g2) :: l2).map fun p => (p.1, p.2.2)) x = some (g2 x) := by
        show (if subX x y2 then some (g2 x) else _) = _
        rw [es]
        rfl
      rw [e2] at z
      dsimp only at z
      split at z
      · rename_i hl
        have hl1 : i < σ1.length := by rw [← r1.len]; exact hl
        have r1' : Rep X.K B0 H0 (E1.set i .no) (σ1.set i (some (.ref a))) B1 H1 := by
          have q1 := r1.setIm (i := i) (v := .ref a) (d := .obj a) (.obj a)
          have q2 := q1.wipe1 i
          rw [List.set_set] at q2
          exact q2
        have qg := hq a x hm ⟨.ref (ca x), none, .fields #[], #[]⟩ [] ⟨rfl, rfl⟩ ⟨_, rfl⟩
        refine ⟨x, ⟨hm, rfl, rfl⟩, ?_⟩
        split at z
        · rename_i E2 y3
          cases z
          refine qg.nx B0 H0 (E1.set i .no) _ B1 H1 r1' (List.getElem?_set_self hl1) (by rw [List.length_set]; exact hl) E2 (by rw [List.set_set]; exact y3) _ fun σ' B' H' r' => ?_
          exact q _ B' H' r'
        · rename_i d y3
          cases z
          exact qg.rt B0 H0 (E1.set i .no) _ B1 H1 r1' (List.getElem?_set_self hl1) (by rw [List.length_set]; exact hl) d (by rw [List.set_set]; exact y3) _ fun v B' H' f' h' => q v B' H' f' h'
        · cases z
      · cases z
theorem gs_tryG {W : WX} {body : List Stmt} {hz : ExceptHandler} {pos : Pos} {tb : WX → TS} {ab : AS} (xt : XT X.K X.mg ca cl) (hh : HdG X n i ca cl (hz :: hds) l) (tk : Takes X W)
    (hbody : ∀ (W' : WX) (pn : List (Addr × Obj)) (xe : Value → Shared → Prop), Takes (X.tr pn xe) W' → GSs (X.tr pn xe) W' body (tb W') ab)
    (hnod : X.N.Nodup) (hslot : X.N[i]? = some n) (hloc : X.env.kindOf n = some .local := by rfl) (hstk : X.stack = X.env :: X.outer := by rfl) (hfrm : X.env.frame = some X.env.locals := by rfl) (hex : X.ex = [] := by rfl) :
    GS X W (.Try body (hz :: hds) [] [] pos) (fun De σ H => tb (wNam X.K i W De (clsG ca cl l)) De σ H) (aTryG i cl ab (l.map fun p => (p.1, p.2.2))) := by
  refine ⟨ps_tryN hstk hfrm hnod hslot hloc tk (fun W' pn xe t p => (hbody W' pn xe t).ps) (hh.nam xt), fun B0 H0 E σ B H rp o z De q => ?_⟩
  obtain ⟨xe, t, p⟩ := any_takes hstk hfrm hex (wNam X.K i W De (clsG ca cl l))
  have hb := (hbody (wNam X.K i W De (clsG ca cl l)) [] xe t).sn
  unfold aTryG at z
  cases y : ab E with
  | none => rw [y] at z; cases z
  | some o1 =>
    rw [y] at z
    refine hb B0 H0 E σ B H rp o1 y De ?_
    cases o1 with
    | nx E1 => cases z; exact q
    | rt d => cases z; exact q
    | bk E1 => cases z; exact q
    | ct E1 => cases z; exact q
    | rw d E1 => cases z; exact q
    | er ce E1 =>
      cases ce with
      | line d => cases z
      | own x =>
        dsimp only at z
        split at z
        · rename_i hm
          intro cls dd σ1 B1 H1 hx r1
          obtain ⟨h1, rfl⟩ := hx
          have h1' := h1
          rw [(xt.ex x hm).g] at h1'
          cases h1'
          exact hh.wish xt hm h1 z q r1
        · cases z
end
end Rf
set_option Elab.async false
set_option linter.all false
set_option maxRecDepth 100000
set_option maxHeartbeats 4000000
namespace Rf
open PySem L2 PyProof.Rows

/-! ## texts -/
def strsOf : List D → Option (List Str)
  | [] => some []
  | .str s :: r => match strsOf r with
    | some l => some (s :: l)
    | none => none
  | _ => none
theorem strsOf_eq : ∀ {ds : List D} {ys : List Str}, strsOf ds = some ys → ds = ys.map D.str
  | [], ys, h => by cases h; rfl
  | d :: ds, ys, h => by
    cases d with
    | str s =>
      rw [strsOf] at h
      cases z : strsOf ds with
      | none => rw [z] at h; cases h
      | some l =>
        rw [z] at h
        cases h
        rw [strsOf_eq z]
        rfl
    | _ => cases h
theorem strsOf_map : ∀ ys : List Str, strsOf (ys.map D.str) = some ys
  | [] => rfl
  | y :: ys => by rw [List.map_cons, strsOf, strsOf_map ys]
theorem DqAll.strs {K : Fg} {B : Hp} : ∀ {vs : List V} {ys : List Str}, DqAll K B vs (ys.map D.str) → vs = ys.map V.str
  | _, [], .nil => rfl
  | _, y :: ys, .cons h t => by
    cases h
    rw [List.map_cons, DqAll.strs t]
theorem DqAll.of_strs {K : Fg} {B : Hp} : ∀ (ys : List Str), DqAll K B (ys.map V.str) (ys.map D.str)
  | [] => .nil
  | y :: ys => .cons (.str y) (DqAll.of_strs ys)
/-- str(i) -/
def dStr : List D → Option D
  | [.int i] => if i.natAbs < 1000000 then some (.str (toString i)) else none
  | _ => none
abbrev rStrK : List V → Hp → VK → Prop := fun xs H Q => ∃ i, xs = [.int i] ∧ i.natAbs.log2 < 1920 ∧ Q (.str (toString i)) H
theorem cs_str {K : Fg} : CS K rStrK dStr := fun B H vs ds d s h e Q q => by
  unfold dStr at e
  split at e
  · rename_i i
    split at e
    · rename_i hi
      cases e
      obtain ⟨v, rfl, h1⟩ := dm1 h
      refine ⟨i, by rw [h1.int], ?_, q _ B H (Fit.refl s) (.str _)⟩
      by_cases h0 : i.natAbs = 0
      · rw [h0]; decide
      · have : i.natAbs.log2 < 20 := (Nat.log2_lt h0).mpr (Nat.lt_trans hi (by decide))
        omega
    · cases e
  · cases e
/-- c in z, of signs -/
def dInS (x y : D) : Option Bool := match x, y with
  | .str ⟨⟨[c]⟩⟩, .str z => some (decide (c ∈ z.cps.toList))
  | _, _ => none
def dNinS (x y : D) : Option Bool := match x, y with
  | .str ⟨⟨[c]⟩⟩, .str z => some (!decide (c ∈ z.cps.toList))
  | _, _ => none
abbrev rInSk : R2 := fun x y H Q => ∃ (c : Nat) (z : Str), x = .str ⟨#[c]⟩ ∧ y = .str z ∧ Q (.bl (decide (c ∈ z.cps.toList))) H
abbrev rNinSk : R2 := fun x y H Q => ∃ (c : Nat) (z : Str), x = .str ⟨#[c]⟩ ∧ y = .str z ∧ Q (.bl (!decide (c ∈ z.cps.toList))) H
theorem r2_inS {K : Fg} : R2S K rInSk (bv dInS) := fun B H v1 v2 d1 d2 d s a b e Q q => by
  unfold bv dInS at e
  split at e
  · rename_i k y
    split at y
    · rename_i c z
      cases y
      cases e
      exact ⟨c, z, a.str, b.str, q _ B H (Fit.refl s) (.bl _)⟩
    · cases y
  · cases e
theorem r2_ninS {K : Fg} : R2S K rNinSk (bv dNinS) := fun B H v1 v2 d1 d2 d s a b e Q q => by
  unfold bv dNinS at e
  split at e
  · rename_i k y
    split at y
    · rename_i c z
      cases y
      cases e
      exact ⟨c, z, a.str, b.str, q _ B H (Fit.refl s) (.bl _)⟩
    · cases y
  · cases e
section
variable {X : Cx} {tg o e : Expr} {to te : TE} {ao ae : AE} {apos pos : Pos}
/-! ### for c in a text -/
def aiS (f : AE) : AA := fun E => match f E with
  | some (.str z) => if z.cps.size ≤ 100000 then some (z.cps.toList.map fun c => D.str ⟨#[c]⟩) else none
  | _ => none
theorem gi_str (h : GE X e te ae) : GI X tg e (iStr te) (aiS ae) :=
  ⟨pi_str h.pe, fun B0 H0 E σ B H rp ds z R q => by
    unfold aiS at z
    split at z
    · rename_i w y
      split at z
      · rename_i hl
        cases z
        refine h.sn B0 H0 E σ B H rp _ y _ fun v B1 H1 f1 h1 => ?_
        have hv : v = .str w := by cases h1; rfl
        refine ⟨w, hv, q _ _ _ B1 H1 f1 (⟨?_, fun _ _ => trivial, fun i B' H' x H'' d s s' e y => ?_⟩ : Wk X.K B1 (Its w) _ (fun _ => True) (fun i H v H' => H' = H ∧ ∃ c, w.cps[i]? = some c ∧ v = .str ⟨#[c]⟩))⟩
        · rw [List.length_map, Array.length_toList]
          exact walk_str
        · obtain ⟨rfl, c, hc, rfl⟩ := y
          rw [List.getElem?_map, Array.getElem?_toList, hc] at e
          cases e
          exact ⟨B', Fit.refl s', .str _⟩
      · cases z
    · (cases z), fun E ds z => by
    unfold aiS at z
    split at z
    · split at z
      · rename_i hl
        cases z
        rw [List.length_map, Array.length_toList]
        exact hl
      · cases z
    · cases z⟩
/-! ### join, split, index -/
def aJoin (f g : AE) : AE := fun E => match f E with
  | some (.str a) => match g E with
    | some (.lst ds) => match strsOf ds with
      | some ys => if (ys.map (·.length)).sum + ys.length * a.length ≤ 100000 then some (.str (Txt.join a ys)) else none
      | none => none
    | _ => none
  | _ => none
abbrev rJoinK (K : Fg) : V → List V → Hp → VK → Prop := fun x xs H Q => ∃ a p, ∃ ys : List Str, x = .str a ∧ xs = [.ref p] ∧ (SqL K H p (ys.map V.str) ∨ SqT K H p (ys.map V.str)) ∧ (ys.map (·.length)).sum + ys.length * a.length ≤ 16777216 ∧ Q (.str (Txt.join a ys)) H
theorem ge_join (ho : GM X o to ao) (he : GM X e te ae) (hs : starEach [e] X.env = [(false, eval e X.env)] := by rfl) (hbase : attributeBase o "join" X.env (eval o X.env) = eval o X.env := by rfl) (hline : (apos.endLine == pos.line) = true := by rfl) :
    GE X (.Call (.Attribute o "join" apos) [e] [] pos) (tM1 (rJoinK X.K) to te) (aJoin ao ae) :=
  ⟨pe_join ho.pe he.pe hs hbase hline, fun B0 H0 E σ B H rp d z Q q => by
    unfold aJoin at z
    split at z
    · rename_i a y1
      split at z
      · rename_i ds y2
        split at z
        · rename_i ys y3
          split at z
          · rename_i hb
            cases z
            refine ho.sn B0 H0 E σ B H rp _ y1 _ fun v B1 H1 f1 h1 => ⟨⟨a, h1.str⟩, ?_⟩
            refine he.sn B0 H0 E σ B1 H1 (rp.on f1) _ y2 _ fun u B2 H2 f2 h2 => ?_
            obtain ⟨p, vs, rfl, hh, hd⟩ := h2.lst f2.bh
            rw [strsOf_eq y3] at hd
            rw [hd.strs] at hh
            exact ⟨a, p, ys, h1.str, rfl, .inl (SqL.of hh), by omega, q _ B2 H2 (f1.trans f2) (.str _)⟩
          · cases z
        · cases z
      · cases z
    · cases z⟩
def alSplit (f g : AE) : AA := fun E => match f E with
  | some (.str a) => match g E with
    | some (.str b) => if b.length ≠ 0 ∧ a.length ≤ 100000 then some ((Txt.split a b).map D.str) else none
    | _ => none
  | _ => none
abbrev rSplitK : V → List V → Hp → VK → Prop := fun x xs H Q => ∃ a b, x = .str a ∧ xs = [.str b] ∧ (b.length == 0) = false ∧ a.length + 2 ≤ sizeLine ∧ rNewStrs (Txt.split a b) H Q
theorem gl_split (ho : GM X o to ao) (he : GM X e te ae) (hs : starEach [e] X.env = [(false, eval e X.env)] := by rfl) (hbase : attributeBase o "split" X.env (eval o X.env) = eval o X.env := by rfl) (hline : (apos.endLine == pos.line) = true := by rfl) :
    GL X (.Call (.Attribute o "split" apos) [e] [] pos) (tM1 rSplitK to te) (alSplit ao ae) :=
  ⟨pe_split ho.pe he.pe hs hbase hline, fun B0 H0 E σ B H rp ds z Q q => by
    unfold alSplit at z
    split at z
    · rename_i a y1
      split at z
      · rename_i b y2
        split at z
        · rename_i hb
          cases z
          refine ho.sn B0 H0 E σ B H rp _ y1 _ fun v B1 H1 f1 h1 => ⟨⟨a, h1.str⟩, ?_⟩
          refine he.sn B0 H0 E σ B1 H1 (rp.on f1) _ y2 _ fun u B2 H2 f2 h2 => ?_
          refine ⟨a, b, h1.str, by rw [h2.str], beq_false_of_ne hb.1, by rw [sizeLine_eq]; omega, fun p hp => ?_⟩
          have f12 := f1.trans f2
          exact q p _ B2 _ (f12.trans (Fit.grow f2.bh (same_new hp))) (f12.free hp) (f2.bh.free hp) upd_same (DqAll.of_strs _)
        · cases z
      · cases z
    · cases z⟩
def aIndex (f g : AE) : AE := fun E => match f E with
  | some (.str a) => match g E with
    | some (.str b) => match Builtin.Str.occurrences a b 0 a.length 1 with
      | i :: _ => some (.int (i : Nat))
      | [] => none
    | _ => none
  | _ => none
abbrev rIndexK : V → List V → Hp → VK → Prop := fun x xs H Q => ∃ a b i rest, x = .str a ∧ xs = [.str b] ∧ Builtin.Str.occurrences a b 0 a.length 1 = i :: rest ∧ Q (.int (i : Nat)) H
theorem ge_index (ho : GM X o to ao) (he : GM X e te ae) (hs : starEach [e] X.env = [(false, eval e X.env)] := by rfl) (hbase : attributeBase o "index" X.env (eval o X.env) = eval o X.env := by rfl) (hline : (apos.endLine == pos.line) = true := by rfl) :
    GE X (.Call (.Attribute o "index" apos) [e] [] pos) (tM1 rIndexK to te) (aIndex ao ae) :=
  ⟨pe_m1 F.slot_str_index F.type_str_index mt_sindex ho.pe he.pe hs hbase hline, fun B0 H0 E σ B H rp d z Q q => by
    unfold aIndex at z
    split at z
    · rename_i a y1
      split at z
      · rename_i b y2
        split at z
        · rename_i i rest y3
          cases z
          refine ho.sn B0 H0 E σ B H rp _ y1 _ fun v B1 H1 f1 h1 => ⟨⟨a, h1.str⟩, ?_⟩
          refine he.sn B0 H0 E σ B1 H1 (rp.on f1) _ y2 _ fun u B2 H2 f2 h2 => ?_
          exact ⟨a, b, i, rest, h1.str, by rw [h2.str], y3, q _ B2 H2 (f1.trans f2) (.int _)⟩
        · cases z
      · cases z
    · cases z⟩
end
end Rf
set_option Elab.async false
set_option linter.all false
set_option maxRecDepth 100000
set_option maxHeartbeats 4000000
namespace Rf
open PySem L2 PyProof.Rows

/-! ## ParseError: its own __init__, its line -/
section
variable {X : Cx} {e : Expr} {es : List Expr} {ta : TA} {p1 p2 pos : Pos}
/-- RingError.__init__(self, ..), which is ValueError's -/
theorem pe_reinit {pl : Sem Bool} {R : Addr} {mc : Value} (hm : X.mg "RingError" = some (.ref R)) (hr : ClX.CRead X.K R mc) (vV : PySem.W.findCls X.K (.ref R) mc "__init__" = some (.val (.builtin "ValueError.__init__"))) (ha : PA X (e :: es) ta) (hg : Gl X "RingError" := by rfl)
    (hc : eval (.Call (.Attribute (.Name "RingError" p1) "__init__" p2) (e :: es) [] pos) X.env = (do
      let ov ← eval (.Name "RingError" p1) X.env
      standAt p2.atName
      let (f, first) ← holding [ov] (getMethod ov "__init__" pl)
      callWith pos f first (backTo pos (starEach (e :: es) X.env)) (backToKw pos (keywordEach [] X.env))) := by rfl)
    (he : starEach (e :: es) X.env = (false, eval e X.env) :: starEach es X.env := by rfl) (hpl : (backTo pos (starEach es X.env)).any (·.1) = false := by rfl) :
    PE X (.Call (.Attribute (.Name "RingError" p1) "__init__" p2) (e :: es) [] pos) (tVeI X.K ta) := by
  refine ⟨fun pins s σ H Q I h => ?_⟩
  refine PySem.W.methodCall_KW (ld_glob I hg hm ?_ (by decide)) hc
  refine PySem.W.method_cls I.kIn hr.ga (PySem.W.cls_value I.kIn hr.rd vV (by decide +kernel) ?_)
  show wpAny _ _ (callWith pos (Value.builtin "ValueError.__init__") [] (backTo pos (starEach (e :: es) X.env)) []) _ _ _
  refine PyProof.Rows.callWith_method1 (thn (ha.run pos pins _ σ H _ (I.tok _) h) fun us s1 ⟨vs, H1, I1, r1, a, C, ws, ev, hl, T, ea, q⟩ => ?_) he hpl
  subst ev
  cases r1 with
  | @cons _ u0 _ ur ra rw' =>
    obtain rfl : u0 = Value.ref a := ra
    have hlen : ur.length ≤ sizeLine := by
      rw [← Paired.length rw', sizeLine_eq]
      omega
    exact oinit_ok T I1 ea hlen fun s' J => ⟨.non, H1, J, rfl, q⟩
end
/-- what ParseError.__init__ does -/
def spI (K : Fg) : Sp := fun vs H Q _ => ∃ a C v, vs = [.ref a, v] ∧ OexC K C ∧ PySem.W.findIn K (.ref C) "line" = some none ∧ H a = some (exo a C none) ∧
  ∀ dx, H dx = none → dx ≠ a → Q .non (upd (upd H dx (exd dx [(("line" : Str), v)])) a (exo a C (some dx)))
theorem init_meets {K : Fg} {vs : List V} {H : Hp} {Q : VK} {E : XK} {m : Str} (h : spI K vs H Q E) :
    tSeq (tDrop (tVeI K (tCons (tVar 0) (tCons (tC (.str m)) tNil)))) (tOst K "line" (tVar 0) (tVar 1)) { nx := fun _ H' => Q .non H', rt := Q } (start ["self", "line"] vs) H := by
  obtain ⟨a, C, v, rfl, T, hno, ea, q⟩ := h
  exact ⟨.ref a, rfl, a, C, [.str m], rfl, (by simp), T, ea, v, rfl, .ref a, rfl, a, C, rfl, T, hno, .inl ⟨ea, q⟩⟩
/-- the class -/
structure PeAt (P : Program) (w : World) (K : Fg) (mg : Str → Option Value) (base : Heap) (k : Nat) (C : Addr) : Prop where
  g : mg "ParseError" = some (.ref C)
  o : OexC K C
  no : PySem.W.findIn K (.ref C) "line" = some none
  fn : ∃ fI fd, PySem.W.findIn K (.ref C) "__init__" = some (some (.ref fI)) ∧ PySem.W.typeIn K (.ref fI) = some (.type "function") ∧ FnOk P w K mg base (L2.CX P w) k fI fd ["self", "line"] (spI K) ∧ Binds K fd ["self", "line"] []
def aRaiseL (f : AE) : AS := fun E => match f E with
  | some d => some (.er (.line d) E)
  | none => none
section
variable {X : Cx} {W : WX} {e : Expr} {te : TE} {ae : AE} {p pos pos2 : Pos} {C : Addr} {k : Nat}
theorem gs_rsP (h : PeAt X.prog X.w X.K X.mg X.base k C) (tk : Takes X W) (hr : Room (k + 1) X.A) (he : GE X e te ae) (hc : X.calm = true := by rfl) (hg : Gl X "ParseError" := by rfl)
    (hs : starEach [e] X.env = (false, eval e X.env) :: starEach [] X.env := by rfl) (hpl : (backTo pos (starEach [] X.env)).any (·.1) = false := by rfl) :
    GS X W (.Raise (some (.Call (.Name "ParseError" p) [e] [] pos)) none pos2) (fun _ σ H => tMkO C (spI X.K) [] (tCons te tNil) σ H fun cls d H' => W cls d σ H') (aRaiseL ae) := by
  obtain ⟨fI, fd, h1, h2, h3, h4⟩ := h.fn
  refine ⟨ps_raise hc tk (pmk_oex h.o h1 h2 h3 hr h4 .nil passL hg h.g (pa_cons he.pe pa_nil hs) (by decide) hs hpl), fun B0 H0 E σ B H rp o z De q => ?_⟩
  unfold aRaiseL at z
  cases y : ae E with
  | none => rw [y] at z; cases z
  | some d =>
    rw [y] at z
    cases z
    refine he.sn B0 H0 E σ B H rp d y _ fun v B1 H1 f1 hv => ⟨by simp, fun a ha => ⟨a, C, v, rfl, h.o, h.no, upd_same, fun dx hdx hne => ⟨rfl, dx, [(("line" : Str), v)], upd_same, ?_, ?_, ?_⟩⟩⟩
    · rw [upd_ne hne, upd_same]
    · rw [upd_ne hne] at hdx; exact hdx
    · have hd1 : H1 dx = none := by rw [upd_ne hne] at hdx; exact hdx
      have eH : upd (del (upd (upd (upd H1 a (exo a C none)) dx (exd dx [(("line" : Str), v)])) a (exo a C (some dx))) a) dx (.xd [(("line" : Str), v)]) = upd H1 dx (.xd [(("line" : Str), v)]) := by
        funext b
        by_cases hb : b = dx
        · rw [hb, upd_same, upd_same]
        · rw [upd_ne hb, upd_ne hb]
          by_cases hba : b = a
          · rw [hba, del_same, ha]
          · rw [del_ne hba, upd_ne hba, upd_ne hb, upd_ne hba]
      rw [eH]
      have hb1 : B1 dx = none := f1.bh.free hd1
      have ff : Fit B1 H1 (upd B1 dx (.xd [(("line" : Str), v)])) (upd H1 dx (.xd [(("line" : Str), v)])) := (Fit.grow f1.bh (same_new hd1)).freeze hd1 hb1 upd_same
      exact q (.ref C) (some dx) σ _ _ ⟨h.g, dx, v, rfl, upd_same, hv.mono ff.bb⟩ ((rp.on f1).on ff)
end
/-! ## in the suite -/
def rIsX (K : Fg) (Dd a : Addr) (p : Addr) : List V → Hp → VK → Prop := fun xs H Q => ∃ (c : V) (cv : Value) (b : Bool), xs = [.ref a, c] ∧ (∀ u, RelV c u → u = cv) ∧ PySem.W.kitOne K (.ref Dd) cv = some b ∧ (∃ fs, H p = some (.xd fs)) ∧ Q (.bl b) H
theorem call_isX {X : Cx} {a Dd p : Addr} {oe : Obj} {pn : List (Addr × Obj)} (C : ExcC X.K Dd) (hz : Zc (.ref Dd) (some p) oe) (hf : ∃ vs, oe.data = .fields vs) : CallR (X.suite a ((a, oe) :: pn)) (.builtin "isinstance") (rIsX X.K Dd a p) := by
  intro pins s σ H xs us Q I r h
  obtain ⟨c, cv, b, rfl, hcv, e, ⟨fs, ep⟩, q⟩ := h
  cases r with
  | cons rx rr =>
    cases rr with
    | cons rt rr =>
      cases rr
      cases rx
      have ec := hcv _ rt
      subst ec
      obtain ⟨hget, _⟩ := I.pin (a, oe) (List.mem_append.mpr (.inl List.mem_cons_self))
      obtain ⟨vs, hv⟩ := hf
      have hx : ObjOk X.prog X.w H s.heap p (.xd fs) := I.hok p _ ep
      obtain ⟨mA, hns, hr⟩ := hx
      obtain ⟨od, ho, hl⟩ := lookIn_ns hns
      have J : PySem.W.InstAt s.heap a oe Dd (some od) := ⟨hget, hz.1, by unfold PySem.W.notCls; rw [hv] <;> rfl, by rw [hz.2]; exact ho⟩
      obtain ⟨cd, hcd, _⟩ := PySem.W.any_some C.hd
      exact PySem.W.kia_one (PySem.W.kitx_exc (by rw [hcd]; rfl) C.hg C.hk C.hs C.ha C.hn C.ht C.hm) I.kIn J e (fun z => nomatch z) fun tk => ⟨.bl b, H, I.kept (t' := tk) fun _ _ z => z, rfl, q⟩
def aIsL (i : Nat) (a p : Addr) (b : Bool) : AE := fun E => match E[i]? with
  | some (.xl a' p' _) => if a' = a ∧ p' = p then some (.bl b) else none
  | _ => none
def aLine (i : Nat) (a p : Addr) : AE := fun E => match E[i]? with
  | some (.xl a' p' d) => if a' = a ∧ p' = p then some d else none
  | _ => none
def aNone : AE := fun _ => none
theorem ge_never {X : Cx} {e : Expr} : GE X e (fun _ _ _ => False) aNone := ⟨⟨fun _ _ _ _ _ _ h => h.elim⟩, fun _ _ _ _ _ _ _ _ z => nomatch z⟩
theorem Rep.xl {K : Fg} {B0 H0 B H : Hp} {E : En} {σ : L2.St} (r : Rep K B0 H0 E σ B H) {i : Nat} {a p : Addr} {d : D} (e : E[i]? = some (.xl a p d)) : σ[i]? = some (some (.ref a)) ∧ ∃ v, B p = some (.xd [(("line" : Str), v)]) ∧ Dq K B v d := by
  obtain ⟨ad, r⟩ := r
  exact r.sl i _ e
section
variable {X : Cx} {i : Nat} {a pp : Addr} {b : Bool} {pos p p1 p2 : Pos} {x y : Str} {Dd : Addr} {oe : Obj} {pn : List (Addr × Obj)}
theorem sn_isL {K : Fg} {c : V} {cv : Value} (hcv : ∀ u, RelV c u → u = cv) (hk : PySem.W.kitOne K (.ref Dd) cv = some b) : SnE K (tCB (rIsX K Dd a pp) (tCons (tVar i) (tCons (tC c) tNil))) (aIsL i a pp b) := fun B0 H0 E σ B H rp d z Q q => by
  unfold aIsL at z
  split at z
  · rename_i a' p' d' y
    split at z
    · rename_i ha
      obtain ⟨rfl, rfl⟩ := ha
      cases z
      obtain ⟨e1, v, e2, _⟩ := rp.xl y
      exact ⟨.ref a', e1, c, cv, b, rfl, hcv, hk, ⟨_, rp.bh _ _ e2⟩, q _ B H (Fit.refl rp.bh) (.bl b)⟩
    · cases z
  · cases z
theorem ge_isL {C : Addr} (hC : ExcC X.K Dd) (hz : Zc (.ref Dd) (some pp) oe) (hf : ∃ vs, oe.data = .fields vs) (hm : X.mg "isinstance" = none) (hy : X.mg y = some (.ref C)) (hk : PySem.W.kitOne X.K (.ref Dd) (.ref C) = some b)
    (hN : X.N[i]? = some x) (hg : Gl (X.suite a ((a, oe) :: pn)) "isinstance" := by rfl) (hgy : Gl (X.suite a ((a, oe) :: pn)) y := by rfl) (hv : Vis X.env.scope x := by first | exact Or.inl rfl | exact Or.inr (Or.inl rfl) | exact Or.inr (Or.inr rfl)) (hd : (x == ("__debug__" : Str)) = false := by decide)
    (hcd : (x == ("__classdict__" : Str)) = false := by decide) (hdy : (y == ("__debug__" : Str)) = false := by decide)
    (hs1 : starEach [.Name x p1, .Name y p2] (X.suite a ((a, oe) :: pn)).env = (false, eval (.Name x p1) (X.suite a ((a, oe) :: pn)).env) :: starEach [.Name y p2] (X.suite a ((a, oe) :: pn)).env := by rfl)
    (hs2 : starEach [.Name y p2] (X.suite a ((a, oe) :: pn)).env = (false, eval (.Name y p2) (X.suite a ((a, oe) :: pn)).env) :: starEach [] (X.suite a ((a, oe) :: pn)).env := by rfl)
    (hpl : (backTo pos (starEach [.Name y p2] (X.suite a ((a, oe) :: pn)).env)).any (·.1) = false := by rfl) :
    GE (X.suite a ((a, oe) :: pn)) (.Call (.Name "isinstance" p) [.Name x p1, .Name y p2] [] pos) (tCB (rIsX X.K Dd a pp) (tCons (tVar i) (tCons (tC (.ref C)) tNil))) (aIsL i a pp b) :=
  ⟨pe_callB (call_isX hC hz hf) hg hm (by decide +kernel) (pa_cons (pe_var hN hv hd hcd) (pa_cons (pe_glob (v := .ref C) hgy hy rfl hdy) pa_nil hs2) hs1) (by decide) (by decide) hs1 hpl, sn_isL (fun u r => r) hk⟩
theorem ge_isLV (hC : ExcC X.K Dd) (hz : Zc (.ref Dd) (some pp) oe) (hf : ∃ vs, oe.data = .fields vs) (hm : X.mg "isinstance" = none) (hy : X.mg "ValueError" = none) (hk : PySem.W.kitOne X.K (.ref Dd) (.type "ValueError") = some b)
    (hN : X.N[i]? = some x) (hg : Gl (X.suite a ((a, oe) :: pn)) "isinstance" := by rfl) (hgy : Gl (X.suite a ((a, oe) :: pn)) "ValueError" := by rfl) (hv : Vis X.env.scope x := by first | exact Or.inl rfl | exact Or.inr (Or.inl rfl) | exact Or.inr (Or.inr rfl)) (hd : (x == ("__debug__" : Str)) = false := by decide)
    (hcd : (x == ("__classdict__" : Str)) = false := by decide)
    (hs1 : starEach [.Name x p1, .Name "ValueError" p2] (X.suite a ((a, oe) :: pn)).env = (false, eval (.Name x p1) (X.suite a ((a, oe) :: pn)).env) :: starEach [.Name "ValueError" p2] (X.suite a ((a, oe) :: pn)).env := by rfl)
    (hs2 : starEach [.Name "ValueError" p2] (X.suite a ((a, oe) :: pn)).env = (false, eval (.Name "ValueError" p2) (X.suite a ((a, oe) :: pn)).env) :: starEach [] (X.suite a ((a, oe) :: pn)).env := by rfl)
    (hpl : (backTo pos (starEach [.Name "ValueError" p2] (X.suite a ((a, oe) :: pn)).env)).any (·.1) = false := by rfl) :
    GE (X.suite a ((a, oe) :: pn)) (.Call (.Name "isinstance" p) [.Name x p1, .Name "ValueError" p2] [] pos) (tCB (rIsX X.K Dd a pp) (tCons (tVar i) (tCons (tC (.ty "ValueError")) tNil))) (aIsL i a pp b) :=
  ⟨pe_callB (call_isX hC hz hf) hg hm (by decide +kernel) (pa_cons (pe_var hN hv hd hcd) (pa_cons (pe_bltn (v := .ty "ValueError") hgy hy PyProof.Rows.Boot.«ValueError» rfl) pa_nil hs2) hs1) (by decide) (by decide) hs1 hpl, sn_isL (fun u r => r) hk⟩
/-- isinstance(e, ValueError), e without a dict -/
theorem qe_isiV (hC : ExcC X.K Dd) (hz : Zc (.ref Dd) none oe) (hf : ∃ vs, oe.data = .fields vs) (hm : X.mg "isinstance" = none) (hy : X.mg "ValueError" = none) (hk : PySem.W.kitOne X.K (.ref Dd) (.type "ValueError") = some b)
    (hN : X.N[i]? = some x) (hg : Gl (X.suite a ((a, oe) :: pn)) "isinstance" := by rfl) (hgy : Gl (X.suite a ((a, oe) :: pn)) "ValueError" := by rfl) (hv : Vis X.env.scope x := by first | exact Or.inl rfl | exact Or.inr (Or.inl rfl) | exact Or.inr (Or.inr rfl)) (hd : (x == ("__debug__" : Str)) = false := by decide)
    (hcd : (x == ("__classdict__" : Str)) = false := by decide)
    (hs1 : starEach [.Name x p1, .Name "ValueError" p2] (X.suite a ((a, oe) :: pn)).env = (false, eval (.Name x p1) (X.suite a ((a, oe) :: pn)).env) :: starEach [.Name "ValueError" p2] (X.suite a ((a, oe) :: pn)).env := by rfl)
    (hs2 : starEach [.Name "ValueError" p2] (X.suite a ((a, oe) :: pn)).env = (false, eval (.Name "ValueError" p2) (X.suite a ((a, oe) :: pn)).env) :: starEach [] (X.suite a ((a, oe) :: pn)).env := by rfl)
    (hpl : (backTo pos (starEach [.Name "ValueError" p2] (X.suite a ((a, oe) :: pn)).env)).any (·.1) = false := by rfl) :
    QE (X.suite a ((a, oe) :: pn)) (.Call (.Name "isinstance" p) [.Name x p1, .Name "ValueError" p2] [] pos) (tCB (rIsE X.K Dd a) (tCons (tVar i) (tCons (tC (.ty "ValueError")) tNil))) i a b :=
  ⟨pe_callB (call_isE hC hz hf) hg hm (by decide +kernel) (pa_cons (pe_var hN hv hd hcd) (pa_cons (pe_bltn (v := .ty "ValueError") hgy hy PyProof.Rows.Boot.«ValueError» rfl) pa_nil hs2) hs1) (by decide) (by decide) hs1 hpl,
   fun σ H Q hi q => ⟨.ref a, hi, .ty "ValueError", .type "ValueError", b, rfl, fun u r => r, hk, q⟩⟩
theorem ge_line (hC : ExcC X.K Dd) (hno : PySem.W.findIn X.K (.ref Dd) "line" = some none) (hz : Zc (.ref Dd) (some pp) oe) (hf : ∃ vs, oe.data = .fields vs) (hN : X.N[i]? = some x)
    (hv : Vis X.env.scope x := by first | exact Or.inl rfl | exact Or.inr (Or.inl rfl) | exact Or.inr (Or.inr rfl)) (hd : (x == ("__debug__" : Str)) = false := by decide) (hcd : (x == ("__classdict__" : Str)) = false := by decide)
    (hb : attributeBase (.Name x p1) "line" X.env (eval (.Name x p1) X.env) = eval (.Name x p1) X.env := by rfl) :
    GE (X.suite a ((a, oe) :: pn)) (.Attribute (.Name x p1) "line" pos) (tXf a (.ref Dd) (some pp) Dd "line" (tVar i)) (aLine i a pp) :=
  ⟨pe_xf ⟨hC.hg, hC.hk, hC.hs, hC.hd⟩ hno hz hf (pe_var hN hv hd hcd) hb, fun B0 H0 E σ B H rp d z Q q => by
    unfold aLine at z
    split at z
    · rename_i a' p' d' y
      split at z
      · rename_i ha
        obtain ⟨rfl, rfl⟩ := ha
        cases z
        obtain ⟨e1, v, e2, h⟩ := rp.xl y
        exact ⟨.ref a', e1, rfl, rfl, p', _, v, rfl, rp.bh _ _ e2, by simp [List.lookup], q v B H (Fit.refl rp.bh) h⟩
      · cases z
    · cases z⟩
end
end Rf
set_option Elab.async false
set_option linter.all false
set_option maxRecDepth 100000
set_option maxHeartbeats 4000000
namespace Rf
open PySem L2

/-! ## try: own exceptions, and ParseError with its line; suites that go on or hand back -/
def liftL (i : Nat) (s : Sl) : Option Out → Option Out
  | some (.nx E) => some (.nx (E.set i s))
  | some (.rt d) => some (.rt d)
  | _ => none
structure QL (X : Cx) (b : List Stmt) (t : TS) (i : Nat) (a p : Addr) (asL : D → AS) : Prop where
  ps : PSs X b t
  nx : ∀ B0 H0 (E : En) σ B H d, Rep X.K B0 H0 (E.set i (.xl a p d)) σ B H → i < E.length → ∀ E2, asL d (E.set i .no) = some (.nx E2) → ∀ De : Ends, (∀ σ' B' H', Rep X.K B0 H0 (E2.set i .no) (σ'.set i none) B' H' → De.nx σ' H') → t De σ H
  rt : ∀ B0 H0 (E : En) σ B H d, Rep X.K B0 H0 (E.set i (.xl a p d)) σ B H → i < E.length → ∀ r, asL d (E.set i .no) = some (.rt r) → ∀ De : Ends, (∀ v B' H', Fit B0 H0 B' H' → Dq X.K B' v r → De.rt v H') → t De σ H
theorem ql_of {X : Cx} {W : WX} {b : List Stmt} {t : TS} {i : Nat} {a p : Addr} {as' : AS} {asL : D → AS} (h : GSs X W b t as') (u : ∀ (d : D) (E : En), i < E.length → as' (E.set i (.xl a p d)) = liftL i (.xl a p d) (asL d (E.set i .no))) : QL X b t i a p asL :=
  ⟨h.ps, fun B0 H0 E σ B H d rp hl E2 e De q => by
    have z := u d E hl
    rw [e] at z
    refine h.sn B0 H0 _ σ B H rp _ z De fun σ' B' H' r' => q σ' B' H' ?_
    have r2 := r'.wipeS1 i
    rw [List.set_set] at r2
    exact r2, fun B0 H0 E σ B H d rp hl r e De q => by
    have z := u d E hl
    rw [e] at z
    exact h.sn B0 H0 _ σ B H rp _ z De q⟩
abbrev Gl2 := List (Str × (Addr → Str → TS) × (Addr → Addr → TS) × (Xc → AS))
def tsL (ca : Str → Addr) (cl : List Str) (t : Addr → Str → TS) (tl : Addr → Addr → TS) (a : Addr) (cls : Value) (d : Option Addr) : TS := fun De σ H =>
  (∃ x : Str, (x ∈ cl ∧ cls = .ref (ca x) ∧ d = none) ∧ t a x De σ H) ∨ ∃ p : Addr, (("ParseError" : Str) ∈ cl ∧ cls = .ref (ca "ParseError") ∧ d = some p) ∧ tl a p De σ H
def clsL (ca : Str → Addr) (cl : List Str) (g : Gl2) : Cls := g.map fun p => (.ref (ca p.1), tsL ca cl p.2.1 p.2.2.1)
def subC : Xc → Str → Bool
  | .own x, y => subX x y
  | .line _, y => subX "ParseError" y
def hdL : List (Str × (Xc → AS)) → Xc → Option AS
  | [], _ => none
  | (y, g) :: r, c => if subC c y then some (g c) else hdL r c
def okX (cl : List Str) : Xc → Bool
  | .own x => decide (x ∈ cl)
  | .line _ => decide (("ParseError" : Str) ∈ cl)
def aTryL (i : Nat) (cl : List Str) (ab : AS) (g : List (Str × (Xc → AS))) : AS := fun E => match ab E with
  | some (.er c E1) => if okX cl c then (match hdL g c with
    | some as => if i < E1.length then (match as (E1.set i .no) with
      | some (.nx E2) => some (.nx (E2.set i .no))
      | some (.rt d) => some (.rt d)
      | _ => none) else none
    | none => some (.er c E1)) else none
  | r => r
inductive HdL (X : Cx) (n : Str) (i : Nat) (ca : Str → Addr) (cl : List Str) : List ExceptHandler → Gl2 → Prop
  | nil : HdL X n i ca cl [] []
  | cons {y : Str} {t : Addr → Str → TS} {tl : Addr → Addr → TS} {g : Xc → AS} {b0 : Stmt} {suite : List Stmt} {np ps : Pos} {hds : List ExceptHandler} {l : Gl2} (hy : y ∈ cl) (hg : Gl X y) (hdb : (y == ("__debug__" : Str)) = false)
      (hq : ∀ (a : Addr) (x : Str) (hx : x ∈ cl) (oe : Obj) (pn : List (Addr × Obj)), Zc (.ref (ca x)) none oe → (∃ vs, oe.data = .fields vs) → QG (X.suite a ((a, oe) :: pn)) (b0 :: suite) (t a x) i a (g (.own x)))
      (hl : ∀ (a p : Addr) (hx : ("ParseError" : Str) ∈ cl) (oe : Obj) (pn : List (Addr × Obj)), Zc (.ref (ca "ParseError")) (some p) oe → (∃ vs, oe.data = .fields vs) → QL (X.suite a ((a, oe) :: pn)) (b0 :: suite) (tl a p) i a p (fun d => g (.line d))) (r : HdL X n i ca cl hds l) :
      HdL X n i ca cl (.ExceptHandler (some (.Name y np)) (some n) (b0 :: suite) ps :: hds) ((y, t, tl, g) :: l)
section
variable {X : Cx} {n : Str} {i : Nat} {ca : Str → Addr} {cl : List Str} {hds : List ExceptHandler} {l : Gl2}
theorem HdL.nam (xt : XT X.K X.mg ca cl) (h : HdL X n i ca cl hds l) : HdN X n hds (clsL ca cl l) := by
  induction h with
  | nil => exact .nil
  | cons hy hg hdb hq hl r ih =>
    refine .cons ⟨hg, hdb, .inl (xt.ex _ hy).g⟩ (fun a oe cls d pn hz hf => ?_) ih
    refine ⟨fun pins s σ H De I h => ?_⟩
    rcases h with ⟨x, ⟨hx, rfl, rfl⟩, h⟩ | ⟨p, ⟨hx, rfl, rfl⟩, h⟩
    · exact (hq a x hx oe pn hz hf).ps.run pins s σ H De I h
    · exact (hl a p hx oe pn hz hf).ps.run pins s σ H De I h
theorem HdL.wish {W : WX} {B0 H0 B1 H1 : Hp} {De : Ends} {E1 : En} {σ1 : L2.St} {o : Out} (xt : XT X.K X.mg ca cl) (hh : HdL X n i ca cl hds l) {c : Xc} {cls : Value} {dd : Option Addr} (hm : okX cl c = true) (hx : Xis X.K X.mg c cls dd B1)
    (z : (match hdL (l.map fun p => (p.1, p.2.2.2)) c with
      | some as => if i < E1.length then (match as (E1.set i .no) with
        | some (.nx E2) => some (.nx (E2.set i .no))
        | some (.rt d) => some (.rt d)
        | _ => none) else none
      | none => some (.er c E1)) = some o) (q : Goes X.K X.mg B0 H0 De W o) (r1 : Rep X.K B0 H0 E1 σ1 B1 H1) : wNam X.K i W De (clsL ca cl l) cls dd σ1 H1 := by
  induction hh with
  | nil =>
    cases z
    exact q _ _ σ1 B1 H1 hx r1
  | @cons y2 t2 tl2 g2 b0 suite np ps hds2 l2 hy hg hdb hq hl2 r ih =>
    have ex : PySem.W.exmOne X.K cls (.ref (ca y2)) = some (subC c y2) := by
      cases c with
      | own x =>
        obtain ⟨h1, rfl⟩ := hx
        have hm' : x ∈ cl := of_decide_eq_true hm
        rw [(xt.ex x hm').g] at h1
        cases h1
        exact xt.exm x hm' y2 hy
      | line d =>
        obtain ⟨h1, _⟩ := hx
        have hm' : ("ParseError" : Str) ∈ cl := of_decide_eq_true hm
        rw [(xt.ex _ hm').g] at h1
        cases h1
        exact xt.exm _ hm' y2 hy
    cases es : subC c y2 with
    | false =>
      rw [es] at ex
      refine ⟨false, ex, fun h => (nomatch h), fun _ => ih ?_⟩
      have e2 : hdL (((y2, t2, tl2, g2) :: l2).map fun p => (p.1, p.2.2.2)) c = hdL (l2.map fun p => (p.1, p.2.2.2)) c := by
        show (if subC c y2 then some (g2 c) else _) = _
        rw [es]
        rfl
      rw [e2] at z
      exact z
    | true =>
      rw [es] at ex
      refine ⟨true, ex, fun _ a ha => ?_, fun h => (nomatch h)⟩
      have e2 : hdL (((y2, t2, tl2, g2) :: l2).map fun p => (p.1, p.2.2.2)) c = some (g2 c) := by
        show (if subC c y2 then some (g2 c) else _) = _
        rw [es]
        rfl
      rw [e2] at z
      dsimp only at z
      split at z
      · rename_i hl
        have hl1 : i < σ1.length := by rw [← r1.len]; exact hl
        cases c with
        | own x =>
          obtain ⟨h1, rfl⟩ := hx
          have hm' : x ∈ cl := of_decide_eq_true hm
          rw [(xt.ex x hm').g] at h1
          cases h1
          have r1' : Rep X.K B0 H0 (E1.set i .no) (σ1.set i (some (.ref a))) B1 H1 := by
            have q1 := r1.setIm (i := i) (v := .ref a) (d := .obj a) (.obj a)
            have q2 := q1.wipe1 i
            rw [List.set_set] at q2
            exact q2
          have qg := hq a x hm' ⟨.ref (ca x), none, .fields #[], #[]⟩ [] ⟨rfl, rfl⟩ ⟨_, rfl⟩
          refine .inl ⟨x, ⟨hm', rfl, rfl⟩, ?_⟩
          split at z
          · rename_i E2 y3
            cases z
            refine qg.nx B0 H0 (E1.set i .no) _ B1 H1 r1' (List.getElem?_set_self hl1) (by rw [List.length_set]; exact hl) E2 (by rw [List.set_set]; exact y3) _ fun σ' B' H' r' => ?_
            exact q _ B' H' r'
          · rename_i d y3
            cases z
            exact qg.rt B0 H0 (E1.set i .no) _ B1 H1 r1' (List.getElem?_set_self hl1) (by rw [List.length_set]; exact hl) d (by rw [List.set_set]; exact y3) _ fun v B' H' f' h' => q v B' H' f' h'
          · cases z
        | line d0 =>
          obtain ⟨h1, p, v0, rfl, hp, hd0⟩ := hx
          have hm' : ("ParseError" : Str) ∈ cl := of_decide_eq_true hm
          rw [(xt.ex _ hm').g] at h1
          cases h1
          have r1' : Rep X.K B0 H0 (E1.set i (.xl a p d0)) (σ1.set i (some (.ref a))) B1 H1 := by
            obtain ⟨ad, r1⟩ := r1
            exact ⟨_, r1.put (l := []) (fun hl => ⟨List.getElem?_set_self hl1, v0, hp, hd0⟩) (fun a ha => nomatch ha) (fun j a _ ha => nomatch ha)⟩
          have qg := hl2 a p hm' ⟨.ref (ca "ParseError"), some p, .fields #[], #[]⟩ [] ⟨rfl, rfl⟩ ⟨_, rfl⟩
          refine .inr ⟨p, ⟨hm', rfl, rfl⟩, ?_⟩
          split at z
          · rename_i E2 y3
            cases z
            refine qg.nx B0 H0 E1 _ B1 H1 d0 r1' hl E2 y3 _ fun σ' B' H' r' => ?_
            exact q _ B' H' r'
          · rename_i d y3
            cases z
            exact qg.rt B0 H0 E1 _ B1 H1 d0 r1' hl d y3 _ fun v B' H' f' h' => q v B' H' f' h'
          · cases z
      · cases z
theorem gs_tryL {W : WX} {body : List Stmt} {hz : ExceptHandler} {pos : Pos} {tb : WX → TS} {ab : AS} (xt : XT X.K X.mg ca cl) (hh : HdL X n i ca cl (hz :: hds) l) (tk : Takes X W)
    (hbody : ∀ (W' : WX) (pn : List (Addr × Obj)) (xe : Value → Shared → Prop), Takes (X.tr pn xe) W' → GSs (X.tr pn xe) W' body (tb W') ab)
    (hnod : X.N.Nodup) (hslot : X.N[i]? = some n) (hloc : X.env.kindOf n = some .local := by rfl) (hstk : X.stack = X.env :: X.outer := by rfl) (hfrm : X.env.frame = some X.env.locals := by rfl) (hex : X.ex = [] := by rfl) :
    GS X W (.Try body (hz :: hds) [] [] pos) (fun De σ H => tb (wNam X.K i W De (clsL ca cl l)) De σ H) (aTryL i cl ab (l.map fun p => (p.1, p.2.2.2))) := by
  refine ⟨ps_tryN hstk hfrm hnod hslot hloc tk (fun W' pn xe t p => (hbody W' pn xe t).ps) (hh.nam xt), fun B0 H0 E σ B H rp o z De q => ?_⟩
  obtain ⟨xe, t, p⟩ := any_takes hstk hfrm hex (wNam X.K i W De (clsL ca cl l))
  have hb := (hbody (wNam X.K i W De (clsL ca cl l)) [] xe t).sn
  unfold aTryL at z
  cases y : ab E with
  | none => rw [y] at z; cases z
  | some o1 =>
    rw [y] at z
    refine hb B0 H0 E σ B H rp o1 y De ?_
    cases o1 with
    | nx E1 => cases z; exact q
    | rt d => cases z; exact q
    | bk E1 => cases z; exact q
    | ct E1 => cases z; exact q
    | rw d E1 => cases z; exact q
    | er ce E1 =>
      dsimp only at z
      split at z
      · rename_i hm
        intro cls dd σ1 B1 H1 hx r1
        exact hh.wish xt hm hx z q r1
      · cases z
end
/-! ## [e], e may raise -/
def xLst (f : AX) : AX := fun E => match f E with
  | some (.ok d) => some (.ok (.lst [d]))
  | r => r
section
variable {X : Cx} {W : WX} {e : Expr} {te : TE} {ax : AX} {pos : Pos}
theorem gx_lst1 (h : GX X W e te ax) (hs : starEach [e] X.env = (false, eval e X.env) :: starEach [] X.env := by rfl) : GX X W (.List [e] pos) (tLst (tCons te tNil)) (xLst ax) :=
  ⟨pe_lst (pa_cons h.pe pa_nil hs), fun B0 H0 E σ B H rp r z Q q => by
    unfold xLst at z
    cases y : ax E with
    | none => rw [y] at z; cases z
    | some r1 =>
      rw [y] at z
      refine h.sn B0 H0 E σ B H rp r1 y _ ?_
      cases r1 with
      | ok d =>
        cases z
        intro v B1 H1 f1 h1
        refine ⟨by show 1 ≤ sizeLine; decide, fun p hp => ?_⟩
        have hb1 : B1 p = none := f1.bh.free hp
        have ff : Fit B1 H1 (upd B1 p (.lst [v])) (upd H1 p (.lst [v])) := (Fit.grow f1.bh (same_new hp)).freeze hp hb1 upd_same
        exact q (.ref p) _ _ (f1.trans ff) (.lst upd_same (.cons (h1.mono ff.bb) .nil))
      | er c =>
        cases z
        exact q⟩
end
end Rf
set_option Elab.async false
set_option linter.all false
set_option maxRecDepth 100000
set_option maxHeartbeats 4000000
namespace Rf
open PySem L2
section
variable {X : Cx} {i : Nat} {a : Addr} {b : Bool} {pos p p1 p2 : Pos} {x y : Str}
theorem ge_isX {C Dd : Addr} {oe : Obj} {pn : List (Addr × Obj)} (hC : ExcC X.K Dd) (hz : Zc (.ref Dd) none oe) (hf : ∃ vs, oe.data = .fields vs) (hm : X.mg "isinstance" = none) (hy : X.mg y = some (.ref C)) (hk : PySem.W.kitOne X.K (.ref Dd) (.ref C) = some b)
    (hN : X.N[i]? = some x) (hg : Gl (X.suite a ((a, oe) :: pn)) "isinstance" := by rfl) (hgy : Gl (X.suite a ((a, oe) :: pn)) y := by rfl) (hv : Vis X.env.scope x := by first | exact Or.inl rfl | exact Or.inr (Or.inl rfl) | exact Or.inr (Or.inr rfl)) (hd : (x == ("__debug__" : Str)) = false := by decide)
    (hcd : (x == ("__classdict__" : Str)) = false := by decide) (hdy : (y == ("__debug__" : Str)) = false := by decide)
    (hs1 : starEach [.Name x p1, .Name y p2] (X.suite a ((a, oe) :: pn)).env = (false, eval (.Name x p1) (X.suite a ((a, oe) :: pn)).env) :: starEach [.Name y p2] (X.suite a ((a, oe) :: pn)).env := by rfl)
    (hs2 : starEach [.Name y p2] (X.suite a ((a, oe) :: pn)).env = (false, eval (.Name y p2) (X.suite a ((a, oe) :: pn)).env) :: starEach [] (X.suite a ((a, oe) :: pn)).env := by rfl)
    (hpl : (backTo pos (starEach [.Name y p2] (X.suite a ((a, oe) :: pn)).env)).any (·.1) = false := by rfl) :
    GE (X.suite a ((a, oe) :: pn)) (.Call (.Name "isinstance" p) [.Name x p1, .Name y p2] [] pos) (tCB (rIsE X.K Dd a) (tCons (tVar i) (tCons (tC (.ref C)) tNil))) (aIsX i a b) :=
  (qe_isi hC hz hf hm hy hk hN hg hgy hv hd hcd hdy hs1 hs2 hpl).ge
theorem ge_isXV {Dd : Addr} {oe : Obj} {pn : List (Addr × Obj)} (hC : ExcC X.K Dd) (hz : Zc (.ref Dd) none oe) (hf : ∃ vs, oe.data = .fields vs) (hm : X.mg "isinstance" = none) (hy : X.mg "ValueError" = none) (hk : PySem.W.kitOne X.K (.ref Dd) (.type "ValueError") = some b)
    (hN : X.N[i]? = some x) (hg : Gl (X.suite a ((a, oe) :: pn)) "isinstance" := by rfl) (hgy : Gl (X.suite a ((a, oe) :: pn)) "ValueError" := by rfl) (hv : Vis X.env.scope x := by first | exact Or.inl rfl | exact Or.inr (Or.inl rfl) | exact Or.inr (Or.inr rfl)) (hd : (x == ("__debug__" : Str)) = false := by decide)
    (hcd : (x == ("__classdict__" : Str)) = false := by decide)
    (hs1 : starEach [.Name x p1, .Name "ValueError" p2] (X.suite a ((a, oe) :: pn)).env = (false, eval (.Name x p1) (X.suite a ((a, oe) :: pn)).env) :: starEach [.Name "ValueError" p2] (X.suite a ((a, oe) :: pn)).env := by rfl)
    (hs2 : starEach [.Name "ValueError" p2] (X.suite a ((a, oe) :: pn)).env = (false, eval (.Name "ValueError" p2) (X.suite a ((a, oe) :: pn)).env) :: starEach [] (X.suite a ((a, oe) :: pn)).env := by rfl)
    (hpl : (backTo pos (starEach [.Name "ValueError" p2] (X.suite a ((a, oe) :: pn)).env)).any (·.1) = false := by rfl) :
    GE (X.suite a ((a, oe) :: pn)) (.Call (.Name "isinstance" p) [.Name x p1, .Name "ValueError" p2] [] pos) (tCB (rIsE X.K Dd a) (tCons (tVar i) (tCons (tC (.ty "ValueError")) tNil))) (aIsX i a b) :=
  (qe_isiV hC hz hf hm hy hk hN hg hgy hv hd hcd hs1 hs2 hpl).ge
end
/-! in suites: the readings name K itself -/
section
variable {X : Cx} {a : Addr} {pn : List (Addr × Obj)} {c : Expr} {ta : TE} {fa : AE}
theorem gt_truS (ha : GM (X.suite a pn) c ta fa) (he : ∀ whole, isTrue c (X.suite a pn).env whole = (do let v ← whole; standAt c.pos; holding [v] (truthy v)) := by intro _; rfl) : GT (X.suite a pn) c (tTru X.K ta) (aTr fa) := gt_tru ha he
theorem op_eqPS (hu : X.A.units + 64 < cLine) : OpR (X.suite a pn) (compareOp .Eq) (rEqP X.K) := op_eqP (X := X.suite a pn) hu
theorem r2_eqS : R2S (X.suite a pn).K (rEqP X.K) (bv dEq) := r2_eq
end
end Rf
set_option Elab.async false
set_option linter.all false
set_option maxRecDepth 100000
set_option maxHeartbeats 4000000
set_option autoImplicit false
namespace Lw
open PySem L2 Rf SX

/-! ## texts of tables -/
def dg (b : Bool) : Nat := if b then 49 else 48
def rowS (r : List Bool) : Str := S (r.map dg)
def nlS : Str := S [10]
def textS (t : Tb) : Str := Txt.join nlS (t.map rowS)
theorem nl_eq : (("\n" : String) : Str) = nlS := by decide +kernel
theorem e_eq : (("" : String) : Str) = S [] := by decide +kernel
theorem zo_eq : (("01" : String) : Str) = S [48, 49] := by decide +kernel
theorem str_bI (b : Bool) : dStr [bI b] = some (.str (S [dg b])) := by
  cases b
  · have : ((toString (0 : Int) : String) : Str) = S [48] := by decide +kernel
    show some (D.str ((toString (0 : Int) : String) : Str)) = _
    rw [this]; rfl
  · have : ((toString (1 : Int) : String) : Str) = S [49] := by decide +kernel
    show some (D.str ((toString (1 : Int) : String) : Str)) = _
    rw [this]; rfl
theorem joinL_one (r : List Bool) : TL.joinL [] (r.map fun b => [dg b]) = r.map dg := by
  induction r with
  | nil => rfl
  | cons b r ih =>
    cases r with
    | nil => rfl
    | cons c r =>
      show [dg b] ++ ([] ++ TL.joinL [] ((c :: r).map fun b => [dg b])) = _
      rw [ih]
      rfl
theorem join_bits (r : List Bool) : Txt.join (S []) (r.map fun b => S [dg b]) = rowS r := by
  have := join_S [] (r.map fun b => [dg b])
  rw [List.map_map, joinL_one] at this
  exact this
theorem sum_one {α : Type} (f : α → Nat) (b : Nat) : ∀ l : List α, (∀ x ∈ l, f x ≤ b) → (l.map f).sum ≤ l.length * b
  | [], _ => by simp
  | x :: l, h => by
    rw [List.map_cons, List.sum_cons, List.length_cons, Nat.succ_mul]
    have := h x (List.mem_cons_self ..)
    have := sum_one f b l fun y hy => h y (List.mem_cons_of_mem _ hy)
    omega
theorem rowS_len (r : List Bool) : (rowS r).length = r.length := by unfold rowS; rw [S_len, List.length_map]
theorem row_txt {E : En} {i j : Nat} {r : List Bool} {e : AE} (he : e = aF dStr (aCons (aVarM j) aNil)) (hE : E[i]? = some (.im (encR r))) (hj : j < E.length) (hr : r.length ≤ 1000) :
    aJoin (aC (.str "")) (aLst (aLc (aiT (aVar i)) (agN j) aYes e [j])) E = some (.str (rowS r)) := by
  subst he
  have h1 : aLc (aiT (aVar i)) (agN j) aYes (aF dStr (aCons (aVarM j) aNil)) [j] E = some ((r.map fun b => S [dg b]).map D.str) := by
    unfold aLc aiT aVar
    rw [hE]
    dsimp only [encR]
    rw [if_pos (by rw [List.length_map]; omega)]
    dsimp only
    rw [List.map_map]
    refine compL_i r bI (fun b => .str (S [dg b])) fun b _ => ⟨_, rfl, ?_⟩
    unfold aF aCons aVarM
    rw [List.getElem?_set_self (by unfold wipeE; rw [List.length_set]; exact hj)]
    exact str_bI b
  unfold aJoin aC aLst
  rw [h1]
  dsimp only
  rw [strsOf_map]
  dsimp only
  rw [e_eq, join_bits, if_pos]
  have s1 := sum_one (fun s : Str => s.length) 1 (r.map fun b => S [dg b]) fun x hx => by
    obtain ⟨b, _, rfl⟩ := List.mem_map.mp hx
    show (S [dg b]).length ≤ 1
    rw [S_len]
    exact Nat.le_refl _
  rw [List.length_map] at s1 ⊢
  have : (S []).length = 0 := rfl
  rw [this]
  omega
theorem lines_txt {E : En} {i j : Nat} {t : Tb} {e : AE} (hE : E[i]? = some (.im (encT t))) (hj : j < E.length) (hl : t.length ≤ 1000) (he : ∀ r ∈ t, ∀ E' : En, E'.length = E.length → E'[j]? = some (.im (encR r)) → e E' = some (.str (rowS r))) :
    aLc (aiT (aVar i)) (agN j) aYes e [j] E = some ((t.map rowS).map D.str) := by
  unfold aLc aiT aVar
  rw [hE]
  dsimp only [encT]
  rw [if_pos (by rw [List.length_map]; omega)]
  dsimp only
  rw [List.map_map]
  refine compL_i t encR (fun r => .str (rowS r)) fun r hr => ⟨_, rfl, ?_⟩
  refine he r hr _ ?_ ?_
  · unfold wipeE; rw [List.length_set, List.length_set]; rfl
  · rw [List.getElem?_set_self (by unfold wipeE; rw [List.length_set]; exact hj)]
theorem join_txt {E : En} {f : AE} {t : Tb} {R C : Nat} (z : Tz t R C) (h : f E = some (.lst ((t.map rowS).map D.str))) : aJoin (aC (.str "\n")) f E = some (.str (textS t)) := by
  unfold aJoin aC
  rw [h]
  dsimp only
  rw [strsOf_map]
  dsimp only
  rw [nl_eq, if_pos]
  · rfl
  have s1 := sum_one (fun s : Str => s.length) 5 (t.map rowS) fun x hx => by
    obtain ⟨r, hr, rfl⟩ := List.mem_map.mp hx
    have := z.sz.row r hr
    have := z.c5
    rw [rowS_len]
    omega
  rw [List.length_map] at s1 ⊢
  have h1 : nlS.length = 1 := rfl
  have := z.sz.len
  have := z.r5
  rw [h1]
  omega
end Lw
set_option Elab.async false
set_option linter.all false
set_option maxRecDepth 100000
set_option maxHeartbeats 4000000
namespace Lw
open PySem L2 Rf
def e_text_of_1 : AE := (aF dStr (aCons (aVarM 2) aNil))
def e_text_of_2 : AE := (aJoin (aC (.str "")) (aLst (aLc (aiT (aVar 1)) (agN 2) aYes e_text_of_1 [2])))
def a_text_of : AS := (aRet (aJoin (aC (.str "\n")) (aLst (aLc (aiT (aVar 0)) (agN 1) aYes e_text_of_2 [1]))))
def F_text_of : Fn := runF 2 a_text_of
def a_format_table : AS := (aSeq (aDropX (aCallX F_check_table (aCons (aVar 0) aNil)))
  (aRet (aCall F_text_of (aCons (aVar 0) aNil))))
def F_format_table : Fn := runF 0 a_format_table
def e_parse_table_1 : AE := (aVar 5)
def t_parse_table_1 : AT := (a2t dNinS (aVarM 5) (aC (.str "01")))
def b_parse_table_1 : AS := (aIfS (tOr' (tNot' (aTr (aVarM 3))) (aTr (aLst (aLc (aiS (aVar 3)) (agN 5) t_parse_table_1 e_parse_table_1 [5])))) (aRaiseL (aVar 2)) aSkip)
def e_parse_table_2 : AE := (aIndex (aC (.str "01")) (aVarM 5))
def e_parse_table_3 : AE := (aF dTuple (aCons (aLst (aLc (aiS (aVar 3)) (agN 5) aYes e_parse_table_2 [5])) aNil))
def a_parse_table : AS := (aSeq (aIfS (tNot' (aTr (aIsi "str" (aVarM 0)))) (aRaiseL (aC .non)) aSkip)
  (aSeq (aSet 1 (aLst (alSplit (aVarM 0) (aC (.str "\n")))))
  (aSeq (aFor (aiEnL (aCons (aVar 1) aNil)) (agT 2 (agCons (agN 2) (agCons (agN 3) agNil))) b_parse_table_1 [2, 3])
  (aSeq (aSet 4 (aF dTuple (aCons (aLst (aLc (aiL (aVar 1)) (agN 3) aYes e_parse_table_3 [3])) aNil)))
  (aSeq (aIfS (tNot' (aTr (aCall F_is_table (aCons (aVar 4) aNil)))) (aRaiseL (aC .non)) aSkip)
  (aRet (aVar 4)))))))
def F_parse_table : Fn := runF 5 a_parse_table
end Lw
set_option Elab.async false
set_option linter.all false
set_option maxRecDepth 100000
set_option maxHeartbeats 4000000
set_option autoImplicit false
namespace Lw
open PySem L2 Rf SX

theorem text_of_eq {t : Tb} {R C : Nat} (z : Tz t R C) : F_text_of [encT t] = some (.ok (.str (textS t))) := by
  have h1 : aLst (aLc (aiT (aVar 0)) (agN 1) aYes e_text_of_2 [1]) [.im (encT t), .no, .no] = some (.lst ((t.map rowS).map D.str)) := by
    unfold aLst
    rw [lines_txt (t := t) (e := e_text_of_2) rfl (by simp) (by have := z.sz.len; have := z.r5; omega) fun r hr E' hl hE => ?_]
    unfold e_text_of_2 e_text_of_1
    have hl' : E'.length = 3 := hl
    exact row_txt rfl hE (by omega) (by have := z.sz.row r hr; have := z.c5; omega)
  unfold F_text_of a_text_of runF
  rw [show en0 2 [encT t] = [.im (encT t), .no, .no] from rfl]
  unfold aRet
  rw [join_txt z h1]
  rfl
theorem tz_of {t : Tb} (h : isTab (encT t) = true) : ∃ R C, Tz t R C := by
  cases t with
  | nil => cases h
  | cons r t =>
    have e : encT (r :: t) = .tup (.tup (r.map bI) :: t.map encR) := rfl
    rw [e, isTab_tup, Bool.and_eq_true, decide_eq_true_eq, List.length_map, List.length_map, List.all_eq_true] at h
    obtain ⟨h1, h2⟩ := h
    have row : ∀ x ∈ r :: t, 1 ≤ x.length ∧ x.length ≤ 5 ∧ x.length = r.length := fun x hx => by
      have := h2 (encR x) (by
        rw [show (D.tup (r.map bI) :: t.map encR) = (r :: t).map encR from rfl]
        exact List.mem_map_of_mem hx)
      unfold encR at this
      rw [rowOk_tup, List.length_map] at this
      simp only [Bool.and_eq_true, decide_eq_true_eq] at this
      exact ⟨this.1.1.1, this.1.1.2, this.1.2⟩
    have r0 := row r (List.mem_cons_self ..)
    exact ⟨t.length + 1, r.length, ⟨rfl, fun x hx => (row x hx).2.2⟩, by omega, h1, r0.1, r0.2.1⟩
theorem Tz.tab {t : Tb} {R C : Nat} (z : Tz t R C) : isTab (encT t) = true := isTab_enc z.sz z.r1 z.r5 z.c1 z.c5
theorem format_eq {t : Tb} {R C : Nat} (z : Tz t R C) : F_format_table [encT t] = some (.ok (.str (textS t))) := by
  have h1 := check_ok (encT t) (plT t 6) z.tab
  unfold F_format_table a_format_table
  simp only [runF, en0, List.getElem?_cons_zero, List.getElem?_cons_succ, List.set, List.map_cons, List.map_nil, List.replicate, List.cons_append, List.nil_append, List.length_cons, List.length_nil, if_true, aSeq, aDropX, aCallX, aCons, aVar, aNil, h1, aRet, aCall, text_of_eq z, ofOut]
/-! ## parse_table -/
def badS (l : Str) : Bool := decide (l.cps.size = 0) || l.cps.toList.any fun c => !decide (c ∈ [48, 49])
def bits (l : Str) : List Bool := l.cps.toList.map fun c => c == 49
theorem forL_erk {g : AG} {b : AS} {l : List Nat} {E : En} (q : Nat → Option Xc) : ∀ (ds : List D) (k : Nat), (∀ i d, ds[i]? = some d → ∃ E1, g d E = some E1 ∧ (q (k + i) = none → ∃ E2, b E1 = some (.nx E2) ∧ wipeE E2 l = E) ∧ (∀ c, q (k + i) = some c → ∃ E3, b E1 = some (.er c E3))) →
    (∀ c, ((List.range ds.length).findSome? fun i => q (k + i)) = some c → ∃ E3, forL g b l ds E = some (.er c E3)) ∧ (((List.range ds.length).findSome? fun i => q (k + i)) = none → forL g b l ds E = some (.nx E))
  | [], k, _ => ⟨fun c h => by simp at h, fun _ => rfl⟩
  | d :: ds, k, h => by
    obtain ⟨E1, e1, h1, h2⟩ := h 0 d rfl
    obtain ⟨i1, i2⟩ := forL_erk q ds (k + 1) fun i d' e => by
      have := h (i + 1) d' (by simpa using e)
      rw [show k + (i + 1) = k + 1 + i by omega] at this
      exact this
    have er : (List.range (d :: ds).length).findSome? (fun i => q (k + i)) = match q k with
        | some c => some c
        | none => (List.range ds.length).findSome? fun i => q (k + 1 + i) := by
      rw [List.length_cons, List.range_succ_eq_map, List.findSome?_cons, List.findSome?_map]
      have : (fun i => q (k + 1 + i)) = (fun i => q (k + i)) ∘ Nat.succ := by funext i; show _ = q (k + (i + 1)); congr 1; omega
      rw [this]
      rw [Nat.add_zero]
      cases q k <;> rfl
    rw [er]
    have z0 : k + 0 = k := rfl
    rw [z0] at h1 h2
    unfold forL
    rw [e1]
    dsimp only
    cases hq : q k with
    | some c =>
      obtain ⟨E3, e3⟩ := h2 c hq
      rw [e3]
      exact ⟨fun c' hc => by cases hc; exact ⟨E3, rfl⟩, fun hc => by cases hc⟩
    | none =>
      obtain ⟨E2, e2, w⟩ := h1 hq
      rw [e2]
      dsimp only
      rw [w]
      exact ⟨i1, i2⟩
theorem good_row {l : Str} (h : badS l = false) : rowS (bits l) = l := by
  unfold badS at h
  rw [Bool.or_eq_false_iff, List.any_eq_false] at h
  unfold rowS bits
  rw [List.map_map]
  have : (l.cps.toList.map (dg ∘ fun c => c == 49)) = l.cps.toList := by
    have e : ∀ c ∈ l.cps.toList, (dg ∘ fun c => c == 49) c = c := fun c hc => by
      have := h.2 c hc
      simp only [Bool.not_eq_true, Bool.not_eq_false', decide_eq_true_eq, List.mem_cons, List.not_mem_nil, or_false] at this
      rcases this with rfl | rfl <;> rfl
    rw [List.map_congr_left e, List.map_id']
  rw [this, S_tl]
theorem rowS_good {r : List Bool} (h : r ≠ []) : badS (rowS r) = false := by
  unfold badS rowS
  rw [Bool.or_eq_false_iff]
  constructor
  · have : r.length ≠ 0 := fun e => h (List.length_eq_zero_iff.mp e)
    simp [this]
  · rw [List.any_eq_false]
    intro c hc
    simp only [List.mem_map] at hc
    obtain ⟨b, _, rfl⟩ := hc
    cases b <;> simp [dg]
theorem bits_row (r : List Bool) : bits (rowS r) = r := by
  unfold bits rowS
  rw [List.map_map]
  have : ((fun c : Nat => c == 49) ∘ dg) = id := by funext b; cases b <;> rfl
  rw [this, List.map_id]
theorem idx01 (c : Nat) (h : c = 48 ∨ c = 49) : aIndex (aC (.str "01")) (aC (.str ⟨#[c]⟩)) [] = some (bI (c == 49)) := by
  rcases h with rfl | rfl
  · have : Builtin.Str.occurrences (S [48, 49]) (S [48]) 0 (S [48, 49]).length 1 = [0] := by decide +kernel
    show (match Builtin.Str.occurrences _ _ 0 _ 1 with | i :: _ => some (D.int (i : Nat)) | [] => none) = _
    rw [zo_eq, this]
    rfl
  · have : Builtin.Str.occurrences (S [48, 49]) (S [49]) 0 (S [48, 49]).length 1 = [1] := by decide +kernel
    show (match Builtin.Str.occurrences _ _ 0 _ 1 with | i :: _ => some (D.int (i : Nat)) | [] => none) = _
    rw [zo_eq, this]
    rfl
def goodC (l : Str) (h : badS l = false) : ∀ c ∈ l.cps.toList, c = 48 ∨ c = 49 := fun c hc => by
  unfold badS at h
  rw [Bool.or_eq_false_iff, List.any_eq_false] at h
  have := h.2 c hc
  simp only [Bool.not_eq_true, Bool.not_eq_false', decide_eq_true_eq, List.mem_cons, List.not_mem_nil, or_false] at this
  exact this
theorem sign_lc {l : Str} (hl : l.length ≤ 100000) {E : En} (hE : E[3]? = some (.im (.str l))) (h5 : 5 < E.length) :
    aLc (aiS (aVar 3)) (agN 5) t_parse_table_1 e_parse_table_1 [5] E = some ((l.cps.toList.filter fun c => !decide (c ∈ [48, 49])).map fun c => .str ⟨#[c]⟩) := by
  unfold aLc aiS aVar
  rw [hE]
  dsimp only
  rw [if_pos (show l.cps.size ≤ 100000 from hl)]
  dsimp only
  refine compL_f l.cps.toList (fun c => D.str ⟨#[c]⟩) _ _ fun c _ => ⟨_, rfl, ?_, fun _ => ?_⟩
  · unfold t_parse_table_1 a2t aVarM aC
    rw [List.getElem?_set_self (by unfold wipeE; rw [List.length_set]; exact h5)]
    show some (!decide (c ∈ (("01" : String) : Str).cps.toList)) = _
    rw [zo_eq]
  · unfold e_parse_table_1 aVar
    rw [List.getElem?_set_self (by unfold wipeE; rw [List.length_set]; exact h5)]
theorem badS_eq (l : Str) : badS l = (!((l.length : Int) != 0) || !((l.cps.toList.filter fun c => !decide (c ∈ [48, 49])).map fun c => D.str ⟨#[c]⟩).isEmpty) := by
  unfold badS
  have e : (l.length : Nat) = l.cps.size := rfl
  congr 1
  · by_cases h : l.cps.size = 0
    · simp [e, h]
    · have : ((l.length : Int) != 0) = true := by rw [bne_iff_ne]; omega
      simp [h, this]
  · rw [List.isEmpty_map]
    cases z : (l.cps.toList.any fun c => !decide (c ∈ [48, 49])) with
    | true =>
      rw [List.any_eq_true] at z
      obtain ⟨c, h1, h2⟩ := z
      cases y : (l.cps.toList.filter fun c => !decide (c ∈ [48, 49])) with
      | nil => exact absurd (List.mem_filter.mpr ⟨h1, h2⟩) (by rw [y]; simp)
      | cons a b => rfl
    | false =>
      rw [List.any_eq_false] at z
      rw [List.filter_eq_nil_iff.mpr fun c hc => by simpa using z c hc]
      rfl
theorem line_body {l : Str} (hl : l.length ≤ 100000) (x0 x1 x4 x5 : Sl) (k : Nat) : b_parse_table_1 [x0, x1, .im (iN k), .im (.str l), x4, x5] = if badS l then some (.er (.line (iN k)) [x0, x1, .im (iN k), .im (.str l), x4, x5]) else some (.nx [x0, x1, .im (iN k), .im (.str l), x4, x5]) := by
  have h1 := sign_lc (E := [x0, x1, .im (iN k), .im (.str l), x4, x5]) hl rfl (by simp)
  have h2 : tOr' (tNot' (aTr (aVarM 3))) (aTr (aLst (aLc (aiS (aVar 3)) (agN 5) t_parse_table_1 e_parse_table_1 [5]))) [x0, x1, .im (iN k), .im (.str l), x4, x5] = some (badS l) := by
    have t1 : tru (.str l) = some ((l.length : Int) != 0) := by show (if l.length ≤ 100000 then some ((l.length : Int) != 0) else none) = _; rw [if_pos hl]
    rw [badS_eq]
    unfold tOr' tNot' aTr aLst
    rw [h1]
    simp only [aVarM, List.getElem?_cons_zero, List.getElem?_cons_succ, t1]
    cases ((l.length : Int) != 0) with
    | false => rfl
    | true => rfl
  unfold b_parse_table_1 aIfS
  rw [h2]
  cases badS l with
  | true => simp [aRaiseL, aVar]
  | false => rfl
def linesOf (s : Str) : List Str := Txt.split s nlS
def firstBad (L : List Str) : Option Nat := (List.range L.length).findSome? fun k => if badS (L.getD k nlS) then some k else none
theorem rows_lc (L : List Str) (hL : L.length ≤ 100000) (hl : ∀ l ∈ L, l.length ≤ 100000 ∧ badS l = false) (x0 x2 x3 x4 x5 : Sl) :
    aF dTuple (aCons (aLst (aLc (aiL (aVar 1)) (agN 3) aYes e_parse_table_3 [3])) aNil) [x0, .im (.lst (L.map D.str)), x2, x3, x4, x5] = some (encT (L.map bits)) := by
  have h1 : aLc (aiL (aVar 1)) (agN 3) aYes e_parse_table_3 [3] [x0, .im (.lst (L.map D.str)), x2, x3, x4, x5] = some (L.map fun l => encR (bits l)) := by
    unfold aLc aiL aVar
    simp only [List.getElem?_cons_zero, List.getElem?_cons_succ]
    rw [if_pos (by rw [List.length_map]; exact hL)]
    refine compL_i L D.str (fun l => encR (bits l)) fun l hm => ⟨_, rfl, ?_⟩
    obtain ⟨hl1, hl2⟩ := hl l hm
    have h2 : aLc (aiS (aVar 3)) (agN 5) aYes e_parse_table_2 [5] [x0, .im (.lst (L.map D.str)), x2, .im (.str l), x4, x5] = some ((bits l).map bI) := by
      unfold aLc aiS aVar
      simp only [List.getElem?_cons_zero, List.getElem?_cons_succ]
      rw [if_pos (show l.cps.size ≤ 100000 from hl1)]
      dsimp only
      unfold bits
      rw [List.map_map]
      refine compL_i l.cps.toList (fun c => D.str ⟨#[c]⟩) _ fun c hc => ⟨_, rfl, ?_⟩
      exact idx01 c (goodC l hl2 c hc)
    show aF dTuple _ [x0, .im (.lst (L.map D.str)), x2, .im (.str l), x4, x5] = _
    unfold aF aCons aLst aNil
    rw [h2]
    rfl
  unfold aF aCons aLst aNil
  rw [h1]
  show some (D.tup _) = _
  unfold encT
  rw [List.map_map]
  rfl
theorem parse_eq (s : Str) (hs : s.length ≤ 100000) (hL : (linesOf s).length ≤ 100000) (hl : ∀ l ∈ linesOf s, l.length ≤ 100000) : F_parse_table [.str s] =
    match firstBad (linesOf s) with
    | some k => some (.er (.line (iN k)))
    | none => if isTab (encT ((linesOf s).map bits)) then some (.ok (encT ((linesOf s).map bits))) else some (.er (.line .non)) := by
  have sp : alSplit (aVarM 0) (aC (.str "\n")) [.im (.str s), .no, .no, .no, .no, .no] = some ((linesOf s).map D.str) := by
    unfold alSplit aVarM aC
    simp only [List.getElem?_cons_zero]
    rw [nl_eq, if_pos ⟨by decide, hs⟩]
    rfl
  generalize linesOf s = L at *
  have key := forL_erk (g := agT 2 (agCons (agN 2) (agCons (agN 3) agNil))) (b := b_parse_table_1) (l := [2, 3]) (E := [.im (.str s), .im (.lst (L.map D.str)), .no, .no, .no, .no]) (fun k => if badS (L.getD k nlS) then some (.line (iN k)) else none) (enD (L.map D.str)) 0 fun i d e => by
    have hi : i < L.length := by
      have := (List.getElem?_eq_some_iff.mp e).1
      rw [enD_len, List.length_map] at this
      exact this
    have hd : d = .tup [iN i, .str (L.getD i nlS)] := by
      unfold enD at e
      rw [List.getElem?_mapIdx, List.getElem?_map, List.getElem?_eq_getElem hi] at e
      cases e
      rw [List.getD_eq_getElem?_getD, List.getElem?_eq_getElem hi]
      rfl
    have hm : L.getD i nlS ∈ L := by rw [List.getD_eq_getElem?_getD, List.getElem?_eq_getElem hi]; exact List.getElem_mem hi
    subst hd
    refine ⟨[.im (.str s), .im (.lst (L.map D.str)), .im (iN i), .im (.str (L.getD i nlS)), .no, .no], rfl, fun hn => ?_, fun c hc => ?_⟩
    · rw [Nat.zero_add] at hn
      rw [line_body (hl _ hm)]
      split at hn
      · cases hn
      · rename_i hb
        rw [if_neg hb]
        exact ⟨_, rfl, rfl⟩
    · rw [Nat.zero_add] at hc
      rw [line_body (hl _ hm)]
      split at hc
      · rename_i hb
        rw [if_pos hb]
        cases hc
        exact ⟨_, rfl⟩
      · cases hc
  rw [enD_len, List.length_map] at key
  have fe : ((List.range L.length).findSome? fun k => if badS (L.getD (0 + k) nlS) then some (Xc.line (iN (0 + k))) else none) = (firstBad L).map fun k => Xc.line (iN k) := by
    unfold firstBad
    generalize List.range L.length = ks
    induction ks with
    | nil => rfl
    | cons k ks ih =>
      rw [List.findSome?_cons, List.findSome?_cons, ih, Nat.zero_add]
      cases badS (L.getD k nlS) <;> rfl
  rw [fe] at key
  have ai : aiEnL (aCons (aVar 1) aNil) [.im (.str s), .im (.lst (L.map D.str)), .no, .no, .no, .no] = some (enD (L.map D.str)) := by
    unfold aiEnL aCons aVar aNil
    simp only [List.getElem?_cons_zero, List.getElem?_cons_succ]
    rw [if_pos (by rw [List.length_map]; exact hL)]
  unfold F_parse_table a_parse_table runF
  rw [show en0 5 [.str s] = [.im (.str s), .no, .no, .no, .no, .no] from rfl]
  have s1 : aIfS (tNot' (aTr (aIsi "str" (aVarM 0)))) (aRaiseL (aC .non)) aSkip [.im (.str s), .no, .no, .no, .no, .no] = some (.nx [.im (.str s), .no, .no, .no, .no, .no]) := rfl
  rw [seq_nx s1]
  rw [seq_nx (set_eq (d := .lst (L.map D.str)) (by unfold aLst; rw [sp]))]
  dsimp only [List.set]
  cases hb : firstBad L with
  | some k =>
    obtain ⟨E3, e3⟩ := key.1 _ (by rw [hb]; rfl)
    have s2 : aFor (aiEnL (aCons (aVar 1) aNil)) (agT 2 (agCons (agN 2) (agCons (agN 3) agNil))) b_parse_table_1 [2, 3] [.im (.str s), .im (.lst (L.map D.str)), .no, .no, .no, .no] = some (.er (.line (iN k)) E3) := by
      unfold aFor
      rw [ai]
      exact e3
    unfold aSeq
    rw [s2]
    rfl
  | none =>
    have e3 := key.2 (by rw [hb]; rfl)
    have good : ∀ l ∈ L, badS l = false := fun l hm => by
      obtain ⟨k, hk⟩ := List.getElem?_of_mem hm
      have hk1 := (List.getElem?_eq_some_iff.mp hk).1
      unfold firstBad at hb
      rw [List.findSome?_eq_none_iff] at hb
      have := hb k (List.mem_range.mpr hk1)
      rw [List.getD_eq_getElem?_getD, hk] at this
      cases z : badS l with
      | false => rfl
      | true =>
        rw [show (some l).getD nlS = l from rfl, z] at this
        cases this
    have s2 : aFor (aiEnL (aCons (aVar 1) aNil)) (agT 2 (agCons (agN 2) (agCons (agN 3) agNil))) b_parse_table_1 [2, 3] [.im (.str s), .im (.lst (L.map D.str)), .no, .no, .no, .no] = some (.nx [.im (.str s), .im (.lst (L.map D.str)), .no, .no, .no, .no]) := by
      unfold aFor
      rw [ai]
      exact e3
    rw [seq_nx s2]
    rw [seq_nx (set_eq (rows_lc L hL (fun l hm => ⟨hl l hm, good l hm⟩) _ _ _ _ _))]
    dsimp only [List.set]
    have it := is_table_eq (encT (L.map bits)) (plT _ 6)
    have s3 : tNot' (aTr (aCall F_is_table (aCons (aVar 4) aNil))) [.im (.str s), .im (.lst (L.map D.str)), .no, .no, .im (encT (L.map bits)), .no] = some (!isTab (encT (L.map bits))) := by
      unfold tNot' aTr aCall aCons aVar aNil
      simp only [List.getElem?_cons_zero, List.getElem?_cons_succ, it, tru]
    cases hi : isTab (encT (L.map bits)) with
    | true =>
      rw [hi] at s3
      rw [seq_nx (show aIfS _ _ aSkip _ = some (.nx _) by rw [ifS_f s3]; rfl)]
      rfl
    | false =>
      rw [hi] at s3
      unfold aSeq aIfS
      rw [s3]
      rfl
end Lw
set_option Elab.async false
set_option linter.all false
set_option maxRecDepth 100000
set_option maxHeartbeats 4000000
namespace Lw
open PySem L2 Rf
def s__law_parse_1 : Xc → AS := fun c => match c with
  | .own x => (aRet (aIf (tAnd' (aTr (aC (.bl (subX x "RingError")))) (tNot' (aTr (aC (.bl (subX x "InvalidTable")))))) (aLst (aCons (aC (.str "line")) (aCons aNone aNil))) (aLst (aCons (aC (.str "other")) aNil))))
  | .line d => (aRet (aIf (tAnd' (aTr (aC (.bl (subX "ParseError" "RingError")))) (tNot' (aTr (aC (.bl (subX "ParseError" "InvalidTable")))))) (aLst (aCons (aC (.str "line")) (aCons (aC d) aNil))) (aLst (aCons (aC (.str "other")) aNil))))
theorem u__law_parse (a : Addr) (x : Str) (E : En) (hl : 1 < E.length) : (aRet (aIf (tAnd' (aTr (aIsX 1 a (subX x "RingError"))) (tNot' (aTr (aIsX 1 a (subX x "InvalidTable"))))) (aLst (aCons (aC (.str "line")) (aCons aNone aNil))) (aLst (aCons (aC (.str "other")) aNil)))) (E.set 1 (.im (.obj a))) = liftO 1 a (s__law_parse_1 (.own x) (E.set 1 .no)) := by
  have h0 : 0 < E.length := by omega
  first
  | (simp (config := {decide := true}) [s__law_parse_1, aSeq, aSet, aSetM, aApp, aRet, aLst, aCons, aNil, aIsX, aIsL, aLine, aNone, aC, al2, aVarM, aVar, lAdd, aIf, vAnd, vOr, vNot, tAnd', tOr', tNot', aTr, tru, liftO, liftL, List.getElem?_set, List.set_comm, set_past, hl, h0]; done)
  | (simp only [s__law_parse_1]; generalize subX x "RingError" = b0; generalize subX x "InvalidTable" = b1; cases b0 <;> cases b1 <;> simp (config := {decide := true}) [s__law_parse_1, aSeq, aSet, aSetM, aApp, aRet, aLst, aCons, aNil, aIsX, aIsL, aLine, aNone, aC, al2, aVarM, aVar, lAdd, aIf, vAnd, vOr, vNot, tAnd', tOr', tNot', aTr, tru, liftO, liftL, List.getElem?_set, List.set_comm, set_past, hl, h0])
theorem ul__law_parse (a p : Addr) (d : D) (E : En) (hl : 1 < E.length) : (aRet (aIf (tAnd' (aTr (aIsL 1 a p (subX "ParseError" "RingError"))) (tNot' (aTr (aIsL 1 a p (subX "ParseError" "InvalidTable"))))) (aLst (aCons (aC (.str "line")) (aCons (aLine 1 a p) aNil))) (aLst (aCons (aC (.str "other")) aNil)))) (E.set 1 (.xl a p d)) = liftL 1 (.xl a p d) (s__law_parse_1 (.line d) (E.set 1 .no)) := by
  have h0 : 0 < E.length := by omega
  first
  | (simp (config := {decide := true}) [s__law_parse_1, aSeq, aSet, aSetM, aApp, aRet, aLst, aCons, aNil, aIsX, aIsL, aLine, aNone, aC, al2, aVarM, aVar, lAdd, aIf, vAnd, vOr, vNot, tAnd', tOr', tNot', aTr, tru, liftO, liftL, List.getElem?_set, List.set_comm, set_past, hl, h0]; done)
  | (simp only [s__law_parse_1]; generalize subX "ParseError" "RingError" = b0; generalize subX "ParseError" "InvalidTable" = b1; cases b0 <;> cases b1 <;> simp (config := {decide := true}) [s__law_parse_1, aSeq, aSet, aSetM, aApp, aRet, aLst, aCons, aNil, aIsX, aIsL, aLine, aNone, aC, al2, aVarM, aVar, lAdd, aIf, vAnd, vOr, vNot, tAnd', tOr', tNot', aTr, tru, liftO, liftL, List.getElem?_set, List.set_comm, set_past, hl, h0])
def a__law_parse : AS := (aTryL 1 ["ParseError", "RingError", "InvalidTable"] (aRetX (xLst (aCallX F_parse_table (aCons (aVar 0) aNil)))) [("ParseError", s__law_parse_1)])
def F__law_parse : Fn := runF 1 a__law_parse
def e_law_k11_1 : AE := (aF dStr (aCons (aVarM 12) aNil))
def e_law_k11_2 : AE := (aJoin (aC (.str "")) (aLst (aLc (aiT (aVar 11)) (agN 12) aYes e_law_k11_1 [12])))
def a_law_k11 : AS := (aSeq (aSet 1 (aCall F__law_row (aCons (aVar 0) (aCons (aC (.int 4)) aNil))))
  (aSeq (aSet 2 (aCall F__law_table (aCons (aVar 0) (aCons (aC (.int 2)) (aCons (aC (.int 5)) aNil)))))
  (aSeq (aSet 3 (aLst (aLc (aiT (aVar 2)) (agN 11) aYes e_law_k11_2 [11])))
  (aSeq (aSet 4 (aJoin (aC (.str "\n")) (aVarM 3)))
  (aSeq (aIfS (tOr' (a2t dNe (aCall F_format_table (aCons (aVar 2) aNil)) (aVarM 4)) (a2t dNe (aCall F__law_parse (aCons (aVar 4) aNil)) (aLst (aCons (aVar 2) aNil)))) (aRet (aC (.bl false))) aSkip)
  (aSeq (aSet 5 (a2 dMod (a2 dIx (aVarM 1) (aC (.int 0))) (a2 dAdd (aF dLen (aCons (aVarM 4) aNil)) (aC (.int 1)))))
  (aSeq (aSet 6 (a2 dIx (aLst (aCons (aC (.str "0")) (aCons (aC (.str "\n")) (aCons (aC (.str "1")) (aCons (aC (.str "2")) (aCons (aC (.str " ")) (aCons (aC (.str "\n0")) aNil))))))) (a2 dMod (a2 dIx (aVarM 1) (aC (.int 1))) (aC (.int 6)))))
  (aSeq (aSet 7 (a2 dIx (aLst (aCons (a2 dAdd (aSl dSl (aVarM 4) aNoP (aPart (aVarM 5))) (aSl dSl (aVarM 4) (aPart (a2 dAdd (aVarM 5) (aC (.int 1)))) aNoP)) (aCons (a2 dAdd (a2 dAdd (aSl dSl (aVarM 4) aNoP (aPart (aVarM 5))) (aVarM 6)) (aSl dSl (aVarM 4) (aPart (aVarM 5)) aNoP)) (aCons (a2 dAdd (aVarM 4) (aC (.str "\n"))) (aCons (a2 dAdd (aC (.str " ")) (aVarM 4)) aNil))))) (a2 dMod (a2 dIx (aVarM 1) (aC (.int 2))) (aC (.int 4)))))
  (aSeq (aSet 8 (aCall F__law_parse (aCons (aVar 7) aNil)))
  (aSeq (aIfS (tOr' (a2t dEq (a2 dIx (aVarM 8) (aC (.int 0))) (aC (.str "other"))) (tAnd' (a2t dNe (a2 dIx (aVarM 8) (aC (.int 0))) (aC (.str "line"))) (a2t dNe (aCall F_format_table (aCons (a2 dIx (aVarM 8) (aC (.int 0))) aNil)) (aVarM 7)))) (aRet (aC (.bl false))) aSkip)
  (aSeq (aSet 9 (a2 dMod (a2 dIx (aVarM 1) (aC (.int 3))) (a2 dAdd (aF dLen (aCons (aVarM 2) aNil)) (aC (.int 1)))))
  (aSeq (aSet 10 (a2 dIx (aLst (aCons (aC (.str "")) (aCons (aC (.str "2")) (aCons (aC (.str "0 1")) (aCons (aC (.str "-1")) (aCons (aC (.str "x")) aNil)))))) (a2 dMod (a2 dIx (aVarM 1) (aC (.int 4))) (aC (.int 5)))))
  (aSeq (aIfS (a2t dNe (aCall F__law_parse (aCons (aJoin (aC (.str "\n")) (aLst (al2 lAdd (aLst (al2 lAdd (aLst (alSl (aVarM 3) aNoP (aPart (aVarM 9)))) (aLst (aCons (aVar 10) (aCons (aC (.str "y")) aNil))))) (aLst (alSl (aVarM 3) (aPart (aVarM 9)) aNoP))))) aNil)) (aLst (aCons (aC (.str "line")) (aCons (aVar 9) aNil)))) (aRet (aC (.bl false))) aSkip)
  (aSeq (aIfS (tOr' (a2t dNe (aCall F__law_parse (aCons (aC (.str "0\n00")) aNil)) (aLst (aCons (aC (.str "line")) (aCons (aC .non) aNil)))) (a2t dNe (aCall F__law_parse (aCons (aC (.str "000000")) aNil)) (aLst (aCons (aC (.str "line")) (aCons (aC .non) aNil))))) (aRet (aC (.bl false))) aSkip)
  (aRet (a2 (bv dEq) (aCall F__law_parse (aCons (a2 dIx (aLst (aCons (aC .non) (aCons (aC (.int 7)) (aCons (aVar 2) (aCons (aLst (aCons (aVar 4) aNil)) aNil))))) (a2 dMod (a2 dIx (aVarM 1) (aC (.int 5))) (aC (.int 4)))) aNil)) (aLst (aCons (aC (.str "line")) (aCons (aC .non) aNil)))))))))))))))))))
def F_law_k11 : Fn := runF 12 a_law_k11
end Lw
set_option Elab.async false
set_option linter.all false
set_option maxRecDepth 100000
set_option maxHeartbeats 4000000
namespace Lw
open PySem L2 Rf
def topS (i : Nat) : Stmt := PySem.Challenge.pw_ringfreetables_k11_text.main.body.getD i (.Pass ⟨0, 0, 0, 0⟩)
section
variable {P : Program} {w : World} {K : Fg} {mg : Str → Option Value} {base : Heap}
abbrev st_in_range : Stmt := topS 6
abbrev N_in_range : List Str := ["value", "low", "high"]
abbrev pl_in_range : List Str := ["value", "low", "high"]
theorem sc_in_range : FnScope N_in_range ["value", "low", "high"] (defScope st_in_range) := ⟨rfl, rfl, rfl, by decide +kernel, rfl, by decide +kernel, by decide +kernel⟩
theorem w_in_range (dd : DefAt K mg "in_range" st_in_range pl_in_range) (bi : Bi mg) : Has P w K mg base 1 "in_range" pl_in_range F_in_range := by
  refine has_of (k := 0) dd sc_in_range rfl fun f cdv A outer s H E hr => ?_
  have tk : Takes (cxOf (L2.CX P w) P w K mg base N_in_range "in_range" (defScope st_in_range) f cdv A outer s H E) (fun cls d _ H => E cls d H) := takes_of rfl rfl rfl rfl
  exact ⟨_, (gss_one (gs_ret (ge_and (ge_isi (T := "int") (by decide +kernel) (by decide +kernel) (by rfl) bi.isinstance (by rfl) bi.int (gm_var 0)) (ge_and (ge_not (ge_isi (T := "bool") (by decide +kernel) (by decide +kernel) (by rfl) bi.isinstance (by rfl) bi.bool (gm_var 0))) (ge_one (ge_ch op_le op_le r2_C r2_C (gm_var 1) (gm_var 0) (gm_var 2)))))))⟩
abbrev st_is_table : Stmt := topS 7
abbrev N_is_table : List Str := ["value", "row", "entry"]
abbrev pl_is_table : List Str := ["value"]
theorem sc_is_table : FnScope N_is_table ["value"] (defScope st_is_table) := ⟨rfl, rfl, rfl, by decide +kernel, rfl, by decide +kernel, by decide +kernel⟩
theorem w_is_table (dd : DefAt K mg "is_table" st_is_table pl_is_table) (bi : Bi mg) (h_in_range : Has P w K mg base 1 "in_range" pl_in_range F_in_range) {u_MAX_SIZE : Value} (c_MAX_SIZE : mg "MAX_SIZE" = some u_MAX_SIZE ∧ RelV (.int 5) u_MAX_SIZE) : Has P w K mg base 2 "is_table" pl_is_table F_is_table := by
  refine has_of (k := 1) dd sc_is_table rfl fun f cdv A outer s H E hr => ?_
  have tk : Takes (cxOf (L2.CX P w) P w K mg base N_is_table "is_table" (defScope st_is_table) f cdv A outer s H E) (fun cls d _ H => E cls d H) := takes_of rfl rfl rfl rfl
  exact ⟨_, (gss_cons (gs_if (GW.t (gw_or (gt_not (gt_tru (GE.m (ge_isi (T := "tuple") (by decide +kernel) (by decide +kernel) (by rfl) bi.isinstance (by rfl) bi.tuple (gm_var 0))))) (gw_or1 (gt_not (gt_ch op_le op_le r2_C r2_C (GE.m ge_int) (GE.m (ge_cb call_len cs_len (by rfl) bi.len (by decide +kernel) (gb_cons (gm_var 0) gb_nil))) (GE.m (ge_gint (by rfl) c_MAX_SIZE.1 c_MAX_SIZE.2))))))) (gss_one (gs_ret ge_bl)) gss_nil)
  (gss_cons (gs_for [1] (passes_of rfl) rfl (gi_tup (ge_var 0)) (gg_name (i := 1) sc_is_table.nd rfl) (gss_cons (gs_if (GW.t (gw_or (gt_not (gt_tru (GE.m (ge_isi (T := "tuple") (by decide +kernel) (by decide +kernel) (by rfl) bi.isinstance (by rfl) bi.tuple (gm_var 1))))) (gw_or (gt_not (gt_ch op_le op_le r2_C r2_C (GE.m ge_int) (GE.m (ge_cb call_len cs_len (by rfl) bi.len (by decide +kernel) (gb_cons (gm_var 1) gb_nil))) (GE.m (ge_gint (by rfl) c_MAX_SIZE.1 c_MAX_SIZE.2)))) (gw_or1 (gt_cmp (op_neP hr.units) r2_ne (GE.m (ge_cb call_len cs_len (by rfl) bi.len (by decide +kernel) (gb_cons (gm_var 1) gb_nil))) (GE.m (ge_cb call_len cs_len (by rfl) bi.len (by decide +kernel) (gb_cons (GE.m (ge_ix ix_seq r2_ix (gm_var 0) (GE.m ge_int))) gb_nil))) (nomark _)))))) (gss_one (gs_ret ge_bl)) gss_nil)
  (gss_one (gs_if (gt_tru (GE.m (GL.e (LC.l (lc1 (own := [("entry", 2)]) (sl := [2]) (g := (gName 2)) (te := (tVar 2)) (tt := (tNot (tTru K (tCall (spF K mg (pl_in_range).length F_in_range) [] E0 (tCons (tVar 2) (tCons (tC (.int 0)) (tCons (tC (.int 1)) tNil))))))) rfl sc_is_table.nd (gi_tup (ge_var 1)) (blkOk_by (own := [("entry", 2)]) (N := N_is_table) (sc := defScope st_is_table) (by decide +kernel)) (by decide) (fun _ _ _ _ _ => (gg_name (i := 2) sc_is_table.nd rfl)) (fun _ _ _ _ _ => (gt_not (gt_tru (GE.m (ge_fn h_in_range (hr.mono (by decide)) (ga_cons (ge_var 2) (ga_cons ge_int (ga_cons ge_int ga_nil)))))))) (fun _ _ _ _ _ => (ge_var 2))))))) (gss_one (gs_ret ge_bl)) gss_nil))))
  (gss_one (gs_ret ge_bl))))⟩
abbrev st_check_table : Stmt := topS 8
abbrev N_check_table : List Str := ["table"]
abbrev pl_check_table : List Str := ["table"]
theorem sc_check_table : FnScope N_check_table ["table"] (defScope st_check_table) := ⟨rfl, rfl, rfl, by decide +kernel, rfl, by decide +kernel, by decide +kernel⟩
theorem w_check_table (dd : DefAt K mg "check_table" st_check_table pl_check_table) (bi : Bi mg) (h_is_table : Has P w K mg base 2 "is_table" pl_is_table F_is_table) {C_InvalidTable : Addr} (x_InvalidTable : ExcAt K mg "InvalidTable" C_InvalidTable) : Has P w K mg base 3 "check_table" pl_check_table F_check_table := by
  refine has_of (k := 2) dd sc_check_table rfl fun f cdv A outer s H E hr => ?_
  have tk : Takes (cxOf (L2.CX P w) P w K mg base N_check_table "check_table" (defScope st_check_table) f cdv A outer s H E) (fun cls d _ H => E cls d H) := takes_of rfl rfl rfl rfl
  exact ⟨_, (gss_one (gs_if (gt_not (gt_tru (GE.m (ge_fn h_is_table (hr.mono (by decide)) (ga_cons (ge_var 0) ga_nil))))) (gss_one (gs_rs x_InvalidTable tk)) gss_nil))⟩
abbrev st_text_of : Stmt := topS 10
abbrev N_text_of : List Str := ["table", "row", "entry"]
abbrev pl_text_of : List Str := ["table"]
theorem sc_text_of : FnScope N_text_of ["table"] (defScope st_text_of) := ⟨rfl, rfl, rfl, by decide +kernel, rfl, by decide +kernel, by decide +kernel⟩
theorem w_text_of (dd : DefAt K mg "text_of" st_text_of pl_text_of) (bi : Bi mg) : Has P w K mg base 1 "text_of" pl_text_of F_text_of := by
  refine has_of (k := 0) dd sc_text_of rfl fun f cdv A outer s H E hr => ?_
  have tk : Takes (cxOf (L2.CX P w) P w K mg base N_text_of "text_of" (defScope st_text_of) f cdv A outer s H E) (fun cls d _ H => E cls d H) := takes_of rfl rfl rfl rfl
  exact ⟨_, (gss_one (gs_ret (ge_join (GE.m ge_str) (GE.m (GL.e (LC.l (lc0 (own := [("row", 1)]) (sl := [1]) (g := (gName 1)) (te := (tM1 (rJoinK K) (tC (.str "")) (tLc (iTup K (tVar 1)) (gName 2) tYes (tCB rStrK (tCons (tVar 2) tNil)) [2]))) rfl sc_text_of.nd (gi_tup (ge_var 0)) (blkOk_by (own := [("row", 1)]) (N := N_text_of) (sc := defScope st_text_of) (by decide +kernel)) (by decide) (fun _ _ _ _ _ => (gg_name (i := 1) sc_text_of.nd rfl)) (fun _ _ _ _ _ => (ge_join (GE.m ge_str) (GE.m (GL.e (LC.l (lc0 (own := [("entry", 2)]) (sl := [2]) (g := (gName 2)) (te := (tCB rStrK (tCons (tVar 2) tNil))) rfl sc_text_of.nd (gi_tup (ge_var 1)) (blkOk_by (own := [("entry", 2)]) (by rfl)) (by decide) (fun _ _ _ _ _ => (gg_name (i := 2) sc_text_of.nd rfl)) (fun _ _ _ _ _ => (ge_ct call_str_int cs_str (by rfl) bi.str (by decide +kernel) (gb_cons (gm_var 2) gb_nil))))))))))))))))⟩
abbrev st_format_table : Stmt := topS 11
abbrev N_format_table : List Str := ["table"]
abbrev pl_format_table : List Str := ["table"]
theorem sc_format_table : FnScope N_format_table ["table"] (defScope st_format_table) := ⟨rfl, rfl, rfl, by decide +kernel, rfl, by decide +kernel, by decide +kernel⟩
theorem w_format_table (dd : DefAt K mg "format_table" st_format_table pl_format_table) (bi : Bi mg) (h_check_table : Has P w K mg base 3 "check_table" pl_check_table F_check_table) (h_text_of : Has P w K mg base 1 "text_of" pl_text_of F_text_of) : Has P w K mg base 4 "format_table" pl_format_table F_format_table := by
  refine has_of (k := 3) dd sc_format_table rfl fun f cdv A outer s H E hr => ?_
  have tk : Takes (cxOf (L2.CX P w) P w K mg base N_format_table "format_table" (defScope st_format_table) f cdv A outer s H E) (fun cls d _ H => E cls d H) := takes_of rfl rfl rfl rfl
  exact ⟨_, (gss_cons (gs_exprX (gx_fn tk h_check_table (hr.mono (by decide)) (ga_cons (ge_var 0) ga_nil)))
  (gss_one (gs_ret (ge_fn h_text_of (hr.mono (by decide)) (ga_cons (ge_var 0) ga_nil)))))⟩
abbrev st_parse_table : Stmt := topS 12
abbrev N_parse_table : List Str := ["text", "rows", "number", "line", "table", "sign"]
abbrev pl_parse_table : List Str := ["text"]
theorem sc_parse_table : FnScope N_parse_table ["text"] (defScope st_parse_table) := ⟨rfl, rfl, rfl, by decide +kernel, rfl, by decide +kernel, by decide +kernel⟩
theorem w_parse_table (dd : DefAt K mg "parse_table" st_parse_table pl_parse_table) (bi : Bi mg) (h_is_table : Has P w K mg base 2 "is_table" pl_is_table F_is_table) {C_pe : Addr} (pe : PeAt P w K mg base 1 C_pe) : Has P w K mg base 3 "parse_table" pl_parse_table F_parse_table := by
  refine has_of (k := 2) dd sc_parse_table rfl fun f cdv A outer s H E hr => ?_
  have tk : Takes (cxOf (L2.CX P w) P w K mg base N_parse_table "parse_table" (defScope st_parse_table) f cdv A outer s H E) (fun cls d _ H => E cls d H) := takes_of rfl rfl rfl rfl
  exact ⟨_, (gss_cons (gs_if (gt_not (gt_tru (GE.m (ge_isi (T := "str") (by decide +kernel) (by decide +kernel) (by rfl) bi.isinstance (by rfl) bi.str (gm_var 0))))) (gss_one (gs_rsP pe tk (hr.mono (by decide)) ge_non)) gss_nil)
  (gss_cons (gs_set (i := 1) sc_parse_table.nd rfl (GL.e (gl_split (gm_var 0) (GE.m ge_str))))
  (gss_cons (gs_for [2, 3] (passes_of rfl) rfl (gi_enumL (by rfl) bi.enumerate (ga_cons (ge_var 1) ga_nil)) (gg_tup rfl (ggs_cons (gg_name (i := 2) sc_parse_table.nd rfl) (ggs_cons (gg_name (i := 3) sc_parse_table.nd rfl) ggs_nil))) (gss_one (gs_if (GW.t (gw_or (gt_not (gt_tru (gm_var 3))) (gw_or1 (gt_tru (GE.m (GL.e (LC.l (lc1 (own := [("sign", 5)]) (sl := [5]) (g := (gName 5)) (te := (tVar 5)) (tt := (tTest (tOp rNinSk (tVar 5) (tC (.str "01"))))) rfl sc_parse_table.nd (gi_str (ge_var 3)) (blkOk_by (own := [("sign", 5)]) (N := N_parse_table) (sc := defScope st_parse_table) (by decide +kernel)) (by decide) (fun _ _ _ _ _ => (gg_name (i := 5) sc_parse_table.nd rfl)) (fun _ _ _ _ _ => (gt_cmp op_notIn_sign r2_ninS (gm_var 5) (GE.m ge_str) rfl)) (fun _ _ _ _ _ => (ge_var 5)))))))))) (gss_one (gs_rsP pe tk (hr.mono (by decide)) (ge_var 2))) gss_nil)))
  (gss_cons (gs_set (i := 4) sc_parse_table.nd rfl (ge_ct call_tuple_of cs_tuple (by rfl) bi.tuple (by decide +kernel) (gb_cons (GE.m (GL.e (LC.l (lc0 (own := [("line", 3)]) (sl := [3]) (g := (gName 3)) (te := (tCB (rTupleK K) (tCons (tLc (iStr (tVar 3)) (gName 5) tYes (tM1 rIndexK (tC (.str "01")) (tVar 5)) [5]) tNil))) rfl sc_parse_table.nd (gi_list (ge_var 1)) (blkOk_by (own := [("line", 3)]) (N := N_parse_table) (sc := defScope st_parse_table) (by decide +kernel)) (by decide) (fun _ _ _ _ _ => (gg_name (i := 3) sc_parse_table.nd rfl)) (fun _ _ _ _ _ => (ge_ct call_tuple_of cs_tuple (by rfl) bi.tuple (by decide +kernel) (gb_cons (GE.m (GL.e (LC.l (lc0 (own := [("sign", 5)]) (sl := [5]) (g := (gName 5)) (te := (tM1 rIndexK (tC (.str "01")) (tVar 5))) rfl sc_parse_table.nd (gi_str (ge_var 3)) (blkOk_by (own := [("sign", 5)]) (by rfl)) (by decide) (fun _ _ _ _ _ => (gg_name (i := 5) sc_parse_table.nd rfl)) (fun _ _ _ _ _ => (ge_index (GE.m ge_str) (gm_var 5))))))) gb_nil))))))) gb_nil)))
  (gss_cons (gs_if (gt_not (gt_tru (GE.m (ge_fn h_is_table (hr.mono (by decide)) (ga_cons (ge_var 4) ga_nil))))) (gss_one (gs_rsP pe tk (hr.mono (by decide)) ge_non)) gss_nil)
  (gss_one (gs_ret (ge_var 4))))))))⟩
abbrev st__law_cell : Stmt := topS 14
abbrev N__law_cell : List Str := ["script", "k"]
abbrev pl__law_cell : List Str := ["script", "k"]
theorem sc__law_cell : FnScope N__law_cell ["script", "k"] (defScope st__law_cell) := ⟨rfl, rfl, rfl, by decide +kernel, rfl, by decide +kernel, by decide +kernel⟩
theorem w__law_cell (dd : DefAt K mg "_law_cell" st__law_cell pl__law_cell) (bi : Bi mg) : Has P w K mg base 1 "_law_cell" pl__law_cell F__law_cell := by
  refine has_of (k := 0) dd sc__law_cell rfl fun f cdv A outer s H E hr => ?_
  have tk : Takes (cxOf (L2.CX P w) P w K mg base N__law_cell "_law_cell" (defScope st__law_cell) f cdv A outer s H E) (fun cls d _ H => E cls d H) := takes_of rfl rfl rfl rfl
  exact ⟨_, (gss_cons (gs_if (gt_cmp op_lt r2_C (gm_var 1) (GE.m (ge_cb call_len cs_len (by rfl) bi.len (by decide +kernel) (gb_cons (gm_var 0) gb_nil))) (nomark _)) (gss_one (gs_ret (ge_ix ix_seq r2_ix (gm_var 0) (gm_var 1)))) gss_nil)
  (gss_one (gs_ret ge_int)))⟩
abbrev st__law_row : Stmt := topS 15
abbrev N__law_row : List Str := ["script", "at", "cell", "found", "time"]
abbrev pl__law_row : List Str := ["script", "at"]
theorem sc__law_row : FnScope N__law_row ["script", "at"] (defScope st__law_row) := ⟨rfl, rfl, rfl, by decide +kernel, rfl, by decide +kernel, by decide +kernel⟩
theorem w__law_row (dd : DefAt K mg "_law_row" st__law_row pl__law_row) (bi : Bi mg) (h__law_cell : Has P w K mg base 1 "_law_cell" pl__law_cell F__law_cell) : Has P w K mg base 2 "_law_row" pl__law_row F__law_row := by
  refine has_of (k := 1) dd sc__law_row rfl fun f cdv A outer s H E hr => ?_
  have tk : Takes (cxOf (L2.CX P w) P w K mg base N__law_row "_law_row" (defScope st__law_row) f cdv A outer s H E) (fun cls d _ H => E cls d H) := takes_of rfl rfl rfl rfl
  exact ⟨_, (gss_cons (gs_set (i := 2) sc__law_row.nd rfl (ge_fn h__law_cell (hr.mono (by decide)) (ga_cons (ge_var 0) (ga_cons (ge_var 1) ga_nil))))
  (gss_cons (gs_setM (i := 3) sc__law_row.nd rfl (gl_lst ga_nil))
  (gss_cons (gs_for [4] (passes_of rfl) rfl (gi_range1 (by rfl) bi.range (gb_cons (GE.m ge_int) gb_nil)) (gg_name (i := 4) sc__law_row.nd rfl) (gss_one (gs_if (gt_cmp op_lt r2_C (GE.m (ge_fn h__law_cell (hr.mono (by decide)) (ga_cons (ge_var 0) (ga_cons (ge_var 1) ga_nil)))) (GE.m (ge_op op_pow r2_pow (GE.m ge_int) (GE.m ge_int))) (nomark _)) (gss_cons (gs_set (i := 2) sc__law_row.nd rfl (ge_op op_mod r2_mod (GE.m (ge_op op_addA r2_add (GE.m (ge_op op_addA r2_add (GE.m (ge_op op_addA r2_add (GE.m (ge_op op_mulA r2_mul (gm_var 2) (GE.m ge_int))) (GE.m (ge_op op_mulA r2_mul (GE.m ge_int) (gm_var 4))))) (GE.m ge_int))) (GE.m (ge_fn h__law_cell (hr.mono (by decide)) (ga_cons (ge_var 0) (ga_cons (ge_op op_mod r2_mod (GE.m (ge_op op_addA r2_add (GE.m (ge_op op_addA r2_add (gm_var 1) (GE.m ge_int))) (gm_var 4))) (GE.m ge_int)) ga_nil)))))) (GE.m ge_int)))
  (gss_one (gs_app (i := 3) rfl (ge_op op_mod r2_mod (GE.m (ge_op op_fdiv r2_div (gm_var 2) (GE.m ge_int))) (GE.m ge_int))))) (gss_cons (gs_app (i := 3) rfl (ge_op op_mod r2_mod (gm_var 2) (GE.m ge_int)))
  (gss_one (gs_set (i := 2) sc__law_row.nd rfl (ge_op op_fdiv r2_div (gm_var 2) (GE.m ge_int))))))))
  (gss_one (GS.frz (gs_ret (ge_var 3)) 3)))))⟩
abbrev st__law_table : Stmt := topS 16
abbrev N__law_table : List Str := ["script", "at", "most", "draws", "rows", "columns", "left", "order", "time", "found", "row", "start", "size", "column", "line"]
abbrev pl__law_table : List Str := ["script", "at", "most"]
theorem sc__law_table : FnScope N__law_table ["script", "at", "most"] (defScope st__law_table) := ⟨rfl, rfl, rfl, by decide +kernel, rfl, by decide +kernel, by decide +kernel⟩
theorem w__law_table (dd : DefAt K mg "_law_table" st__law_table pl__law_table) (bi : Bi mg) (h__law_row : Has P w K mg base 2 "_law_row" pl__law_row F__law_row) : Has P w K mg base 3 "_law_table" pl__law_table F__law_table := by
  refine has_of (k := 2) dd sc__law_table rfl fun f cdv A outer s H E hr => ?_
  have tk : Takes (cxOf (L2.CX P w) P w K mg base N__law_table "_law_table" (defScope st__law_table) f cdv A outer s H E) (fun cls d _ H => E cls d H) := takes_of rfl rfl rfl rfl
  exact ⟨_, (gss_cons (gs_set (i := 3) sc__law_table.nd rfl (ge_fn h__law_row (hr.mono (by decide)) (ga_cons (ge_var 0) (ga_cons (ge_var 1) ga_nil))))
  (gss_cons (gs_par (i := 4) (j := 5) rfl sc__law_table.nd rfl rfl (by decide) rfl rfl (ga_cons (ge_op op_addA r2_add (GE.m ge_int) (GE.m (ge_op op_mod r2_mod (GE.m (ge_ix ix_seq r2_ix (gm_var 3) (GE.m ge_int))) (gm_var 2)))) (ga_cons (ge_op op_addA r2_add (GE.m ge_int) (GE.m (ge_op op_mod r2_mod (GE.m (ge_ix ix_seq r2_ix (gm_var 3) (GE.m ge_int))) (gm_var 2)))) ga_nil)) rfl)
  (gss_cons (gs_tupM (i := 6) (j := 7) sc__law_table.nd rfl rfl (gl_rg (by rfl) (by rfl) bi.list (by rfl) bi.range (gm_var 5)) (gl_lst ga_nil))
  (gss_cons (gs_for [8] (passes_of rfl) rfl (gi_range1 (by rfl) bi.range (gb_cons (gm_var 5) gb_nil)) (gg_name (i := 8) sc__law_table.nd rfl) (gss_one (gs_appPop (i := 7) (j := 6) rfl rfl (GE.m (ge_op op_mod r2_mod (GE.m (ge_ix ix_seq r2_ix (gm_var 3) (GE.m (ge_op op_addA r2_add (GE.m ge_int) (gm_var 8))))) (GE.m (ge_cb call_len cs_len (by rfl) bi.len (by decide +kernel) (gb_cons (gm_var 6) gb_nil))))))))
  (gss_cons (gs_setMM sc__law_table.nd rfl)
  (gss_cons (gs_for [10, 11, 12, 14] (passes_of rfl) rfl (gi_range1 (by rfl) bi.range (gb_cons (gm_var 4) gb_nil)) (gg_name (i := 10) sc__law_table.nd rfl) (gss_cons (gs_set (i := 11) sc__law_table.nd rfl (ge_op op_mod r2_mod (GE.m (ge_ix ix_seq r2_ix (gm_var 3) (GE.m (ge_op op_addA r2_add (GE.m ge_int) (gm_var 10))))) (gm_var 5)))
  (gss_cons (gs_set (i := 12) sc__law_table.nd rfl (ge_op op_mod r2_mod (GE.m (ge_ix ix_seq r2_ix (gm_var 3) (GE.m (ge_op op_addA r2_add (GE.m ge_int) (gm_var 10))))) (GE.m (ge_op op_addA r2_add (gm_var 5) (GE.m ge_int)))))
  (gss_cons (gs_lcM (i := 14) rfl (lc0 (own := [("column", 13)]) (sl := [13]) (g := (gName 13)) (te := (tCB rIntK (tCons (tChain (rI0 fun i j => .bl (decide (i ≤ j))) (rI0 fun i j => .bl (decide (i < j))) (tVar 11) (tOp (rIx K) (tVar 7) (tVar 13)) (tOp (rAddA K) (tVar 11) (tVar 12))) tNil))) rfl sc__law_table.nd (gi_range1 (by rfl) bi.range (gb_cons (gm_var 5) gb_nil)) (blkOk_by (own := [("column", 13)]) (N := N__law_table) (sc := defScope st__law_table) (by decide +kernel)) (by decide) (fun _ _ _ _ _ => (gg_name (i := 13) sc__law_table.nd rfl)) (fun _ _ _ _ _ => (ge_ct call_int1 cs_int (by rfl) bi.int (by decide +kernel) (gb_cons (GE.m (ge_ch op_le op_lt r2_C r2_C (gm_var 11) (GE.m (ge_ix ix_seq r2_ix (gm_var 7) (gm_var 13))) (GE.m (ge_op op_addA r2_add (gm_var 11) (gm_var 12))))) gb_nil)))))
  (gss_cons (gs_if (gt_cmp (op_eqP hr.units) r2_eq (GE.m (ge_op op_mod r2_mod (GE.m (ge_ix ix_seq r2_ix (gm_var 3) (GE.m ge_int))) (GE.m ge_int))) (GE.m ge_int) (nomark _)) (gss_one (gs_lcM (i := 14) rfl (lc0 (own := [("column", 13)]) (sl := [13]) (g := (gName 13)) (te := (tCB rIntK (tCons (tOp (rEqP K) (tOp (rI (fun _ j => 0 < j) fun i j => .int (i % j)) (tOp (rIx K) (tVar 3) (tOp (rAddA K) (tC (.int 30)) (tOp (rI (fun _ j => 0 < j) fun i j => .int (i % j)) (tOp (rAddA K) (tOp (rMulA K) (tC (.int 5)) (tVar 10)) (tVar 13)) (tC (.int 20))))) (tOp (rAddA K) (tC (.int 2)) (tOp (rI (fun _ j => 0 < j) fun i j => .int (i % j)) (tOp (rIx K) (tVar 3) (tC (.int 51))) (tC (.int 2))))) (tC (.int 0))) tNil))) rfl sc__law_table.nd (gi_range1 (by rfl) bi.range (gb_cons (gm_var 5) gb_nil)) (blkOk_by (own := [("column", 13)]) (N := N__law_table) (sc := defScope st__law_table) (by decide +kernel)) (by decide) (fun _ _ _ _ _ => (gg_name (i := 13) sc__law_table.nd rfl)) (fun _ _ _ _ _ => (ge_ct call_int1 cs_int (by rfl) bi.int (by decide +kernel) (gb_cons (GE.m (ge_cmp (op_eqP hr.units) r2_eq (GE.m (ge_op op_mod r2_mod (GE.m (ge_ix ix_seq r2_ix (gm_var 3) (GE.m (ge_op op_addA r2_add (GE.m ge_int) (GE.m (ge_op op_mod r2_mod (GE.m (ge_op op_addA r2_add (GE.m (ge_op op_mulA r2_mul (GE.m ge_int) (gm_var 10))) (gm_var 13))) (GE.m ge_int))))))) (GE.m (ge_op op_addA r2_add (GE.m ge_int) (GE.m (ge_op op_mod r2_mod (GE.m (ge_ix ix_seq r2_ix (gm_var 3) (GE.m ge_int))) (GE.m ge_int))))))) (GE.m ge_int) (nomark _))) gb_nil)))))) gss_nil)
  (gss_one (gs_appMM (i := 9) (j := 14) rfl rfl)))))))
  (gss_cons (gs_if (gt_cmp (op_eqP hr.units) r2_eq (GE.m (ge_op op_mod r2_mod (GE.m (ge_ix ix_seq r2_ix (gm_var 3) (GE.m ge_int))) (GE.m ge_int))) (GE.m ge_int) (nomark _)) (gss_cons (gs_asg (ge_tup (ga_cons (ge_op op_mod r2_mod (GE.m (ge_ix ix_seq r2_ix (gm_var 3) (GE.m ge_int))) (gm_var 4)) (ga_cons (ge_op op_mod r2_mod (GE.m (ge_ix ix_seq r2_ix (gm_var 3) (GE.m ge_int))) (gm_var 5)) ga_nil))) (gg_tup rfl (ggs_cons (gg_name (i := 10) sc__law_table.nd rfl) (ggs_cons (gg_name (i := 13) sc__law_table.nd rfl) ggs_nil))))
  (gss_one (gs_setIxMM (i := 9) rfl (ge_op op_sub r2_I0 (GE.m ge_int) (GE.m (ge_ix ix_seq r2_ix (gm_mm 9 (gm_var 10)) (gm_var 13)))) (gm_var 10) (gm_var 13)))) gss_nil)
  (gss_one (GS.frzMM (gs_ret (ge_ct call_tuple_of cs_tuple (by rfl) bi.tuple (by decide +kernel) (gb_cons (GE.m (GL.e (LC.l (lc0 (own := [("line", 14)]) (sl := [14]) (g := (gName 14)) (te := (tCB (rTupleK K) (tCons (tVar 14) tNil))) rfl sc__law_table.nd (gi_list (ge_var 9)) (blkOk_by (own := [("line", 14)]) (N := N__law_table) (sc := defScope st__law_table) (by decide +kernel)) (by decide) (fun _ _ _ _ _ => (gg_name (i := 14) sc__law_table.nd rfl)) (fun _ _ _ _ _ => (ge_ct call_tuple_of cs_tuple (by rfl) bi.tuple (by decide +kernel) (gb_cons (gm_var 14) gb_nil))))))) gb_nil))) 9)))))))))⟩
abbrev st__law_parse : Stmt := topS 17
abbrev N__law_parse : List Str := ["text", "e"]
abbrev pl__law_parse : List Str := ["text"]
theorem sc__law_parse : FnScope N__law_parse ["text"] (defScope st__law_parse) := ⟨rfl, rfl, rfl, by decide +kernel, rfl, by decide +kernel, by decide +kernel⟩
theorem w__law_parse (dd : DefAt K mg "_law_parse" st__law_parse pl__law_parse) (bi : Bi mg) (h_parse_table : Has P w K mg base 3 "parse_table" pl_parse_table F_parse_table) {ca : Str → Addr} (xt : XT K mg ca ["ParseError", "RingError", "InvalidTable"]) (pno : PySem.W.findIn K (.ref (ca "ParseError")) "line" = some none) : Has P w K mg base 4 "_law_parse" pl__law_parse F__law_parse := by
  refine has_of (k := 3) dd sc__law_parse rfl fun f cdv A outer s H E hr => ?_
  have tk : Takes (cxOf (L2.CX P w) P w K mg base N__law_parse "_law_parse" (defScope st__law_parse) f cdv A outer s H E) (fun cls d _ H => E cls d H) := takes_of rfl rfl rfl rfl
  exact ⟨_, (gss_one (gs_tryL (i := 1) (tb := fun W => (tRet (tLst (tCons (tCallS (spF K mg (pl_parse_table).length F_parse_table) (WE W) (tCons (tVar 0) tNil)) tNil)))) xt (.cons (by decide +kernel) (by rfl) (by decide) (fun a x hx oe pn hz hf => qg_of (W := fun _ _ _ _ => True) (as := s__law_parse_1 (.own x)) (gss_one (gs_ret (ge_if (GW.t (gw_and (gt_truS (GE.m (ge_isX (xt.c x hx) hz hf bi.isinstance (xt.ex "RingError" (by decide +kernel)).g (xt.kit x hx "RingError" (by decide +kernel)) rfl))) (gw_and1 (gt_not (gt_truS (GE.m (ge_isX (xt.c x hx) hz hf bi.isinstance (xt.ex "InvalidTable" (by decide +kernel)).g (xt.kit x hx "InvalidTable" (by decide +kernel)) rfl))))))) (GL.e (gl_lst (ga_cons ge_str (ga_cons ge_never ga_nil)))) (GL.e (gl_lst (ga_cons ge_str ga_nil)))))) (u__law_parse a x)) (fun a p hx oe pn hz hf => ql_of (W := fun _ _ _ _ => True) (asL := fun d => s__law_parse_1 (.line d)) (gss_one (gs_ret (ge_if (GW.t (gw_and (gt_truS (GE.m (ge_isL (xt.c _ hx) hz hf bi.isinstance (xt.ex "RingError" (by decide +kernel)).g (xt.kit _ hx "RingError" (by decide +kernel)) rfl))) (gw_and1 (gt_not (gt_truS (GE.m (ge_isL (xt.c _ hx) hz hf bi.isinstance (xt.ex "InvalidTable" (by decide +kernel)).g (xt.kit _ hx "InvalidTable" (by decide +kernel)) rfl))))))) (GL.e (gl_lst (ga_cons ge_str (ga_cons (ge_line (xt.c _ hx) pno hz hf rfl) ga_nil)))) (GL.e (gl_lst (ga_cons ge_str ga_nil)))))) (ul__law_parse a p)) .nil) tk (fun W pn xe tk => (gss_one (gs_retX (gx_lst1 (gx_fn tk h_parse_table (hr.mono (by decide)) (ga_cons (ge_var 0) ga_nil)))))) sc__law_parse.nd rfl))⟩
abbrev st_law : Stmt := topS 18
abbrev N_law : List Str := ["script", "draws", "table", "lines_here", "text", "spot", "new", "edited", "found", "at", "wrong", "row", "entry"]
abbrev pl_law : List Str := ["script"]
theorem sc_law : FnScope N_law ["script"] (defScope st_law) := ⟨rfl, rfl, rfl, by decide +kernel, rfl, by decide +kernel, by decide +kernel⟩
theorem w_law {f : Addr} {fd : FuncData} (dd : Fun K "law" "law" st_law f fd) (bi : Bi mg) (h__law_parse : Has P w K mg base 4 "_law_parse" pl__law_parse F__law_parse) (h__law_row : Has P w K mg base 2 "_law_row" pl__law_row F__law_row) (h__law_table : Has P w K mg base 3 "_law_table" pl__law_table F__law_table) (h_format_table : Has P w K mg base 4 "format_table" pl_format_table F_format_table) : FnOk P w K mg base (L2.CX P w) 5 f fd pl_law (spF K mg 1 F_law_k11) := by
  refine okF (k := 4) dd sc_law rfl rfl fun cdv A outer s H E hr => ?_
  have tk : Takes (cxOf (L2.CX P w) P w K mg base N_law "law" (defScope st_law) f cdv A outer s H E) (fun cls d _ H => E cls d H) := takes_of rfl rfl rfl rfl
  exact ⟨_, (gss_cons (gs_set (i := 1) sc_law.nd rfl (ge_fn h__law_row (hr.mono (by decide)) (ga_cons (ge_var 0) (ga_cons ge_int ga_nil))))
  (gss_cons (gs_set (i := 2) sc_law.nd rfl (ge_fn h__law_table (hr.mono (by decide)) (ga_cons (ge_var 0) (ga_cons ge_int (ga_cons ge_int ga_nil)))))
  (gss_cons (gs_lcE (i := 3) rfl (lc0 (own := [("row", 11)]) (sl := [11]) (g := (gName 11)) (te := (tM1 (rJoinK K) (tC (.str "")) (tLc (iTup K (tVar 11)) (gName 12) tYes (tCB rStrK (tCons (tVar 12) tNil)) [12]))) rfl sc_law.nd (gi_tup (ge_var 2)) (blkOk_by (own := [("row", 11)]) (N := N_law) (sc := defScope st_law) (by decide +kernel)) (by decide) (fun _ _ _ _ _ => (gg_name (i := 11) sc_law.nd rfl)) (fun _ _ _ _ _ => (ge_join (GE.m ge_str) (GE.m (GL.e (LC.l (lc0 (own := [("entry", 12)]) (sl := [12]) (g := (gName 12)) (te := (tCB rStrK (tCons (tVar 12) tNil))) rfl sc_law.nd (gi_tup (ge_var 11)) (blkOk_by (own := [("entry", 12)]) (by rfl)) (by decide) (fun _ _ _ _ _ => (gg_name (i := 12) sc_law.nd rfl)) (fun _ _ _ _ _ => (ge_ct call_str_int cs_str (by rfl) bi.str (by decide +kernel) (gb_cons (gm_var 12) gb_nil)))))))))))
  (gss_cons (gs_set (i := 4) sc_law.nd rfl (ge_join (GE.m ge_str) (gm_var 3)))
  (gss_cons (gs_if (GW.t (gw_or (gt_cmp (op_neP hr.units) r2_ne (GE.m (ge_fn h_format_table (hr.mono (by decide)) (ga_cons (ge_var 2) ga_nil))) (gm_var 4) (nomark _)) (gw_or1 (gt_cmp (op_neP hr.units) r2_ne (GE.m (ge_fn h__law_parse (hr.mono (by decide)) (ga_cons (ge_var 4) ga_nil))) (GE.m (GL.e (gl_lst (ga_cons (ge_var 2) ga_nil)))) (nomark _))))) (gss_one (gs_ret ge_bl)) gss_nil)
  (gss_cons (gs_set (i := 5) sc_law.nd rfl (ge_op op_mod r2_mod (GE.m (ge_ix ix_seq r2_ix (gm_var 1) (GE.m ge_int))) (GE.m (ge_op op_addA r2_add (GE.m (ge_cb call_len cs_len (by rfl) bi.len (by decide +kernel) (gb_cons (gm_var 4) gb_nil))) (GE.m ge_int)))))
  (gss_cons (gs_set (i := 6) sc_law.nd rfl (ge_ix ix_seq r2_ix (GE.m (GL.e (gl_lst (ga_cons ge_str (ga_cons ge_str (ga_cons ge_str (ga_cons ge_str (ga_cons ge_str (ga_cons ge_str ga_nil))))))))) (GE.m (ge_op op_mod r2_mod (GE.m (ge_ix ix_seq r2_ix (gm_var 1) (GE.m ge_int))) (GE.m ge_int)))))
  (gss_cons (gs_set (i := 7) sc_law.nd rfl (ge_ix ix_seq r2_ix (GE.m (GL.e (gl_lst (ga_cons (ge_op op_addA r2_add (GE.m (ge_sl (gm_var 4) go_none (go_some (gm_var 5)))) (GE.m (ge_sl (gm_var 4) (go_some (GE.m (ge_op op_addA r2_add (gm_var 5) (GE.m ge_int)))) go_none))) (ga_cons (ge_op op_addA r2_add (GE.m (ge_op op_addA r2_add (GE.m (ge_sl (gm_var 4) go_none (go_some (gm_var 5)))) (gm_var 6))) (GE.m (ge_sl (gm_var 4) (go_some (gm_var 5)) go_none))) (ga_cons (ge_op op_addA r2_add (gm_var 4) (GE.m ge_str)) (ga_cons (ge_op op_addA r2_add (GE.m ge_str) (gm_var 4)) ga_nil))))))) (GE.m (ge_op op_mod r2_mod (GE.m (ge_ix ix_seq r2_ix (gm_var 1) (GE.m ge_int))) (GE.m ge_int)))))
  (gss_cons (gs_set (i := 8) sc_law.nd rfl (ge_fn h__law_parse (hr.mono (by decide)) (ga_cons (ge_var 7) ga_nil)))
  (gss_cons (gs_if (GW.t (gw_or (gt_cmp (op_eqP hr.units) r2_eq (GE.m (ge_ix ix_seq r2_ix (gm_var 8) (GE.m ge_int))) (GE.m ge_str) (nomark _)) (gw_or1 (GW.t (gw_and (gt_cmp (op_neP hr.units) r2_ne (GE.m (ge_ix ix_seq r2_ix (gm_var 8) (GE.m ge_int))) (GE.m ge_str) (nomark _)) (gw_and1 (gt_cmp (op_neP hr.units) r2_ne (GE.m (ge_fn h_format_table (hr.mono (by decide)) (ga_cons (ge_ix ix_seq r2_ix (gm_var 8) (GE.m ge_int)) ga_nil))) (gm_var 7) (nomark _)))))))) (gss_one (gs_ret ge_bl)) gss_nil)
  (gss_cons (gs_set (i := 9) sc_law.nd rfl (ge_op op_mod r2_mod (GE.m (ge_ix ix_seq r2_ix (gm_var 1) (GE.m ge_int))) (GE.m (ge_op op_addA r2_add (GE.m (ge_cb call_len cs_len (by rfl) bi.len (by decide +kernel) (gb_cons (gm_var 2) gb_nil))) (GE.m ge_int)))))
  (gss_cons (gs_set (i := 10) sc_law.nd rfl (ge_ix ix_seq r2_ix (GE.m (GL.e (gl_lst (ga_cons ge_str (ga_cons ge_str (ga_cons ge_str (ga_cons ge_str (ga_cons ge_str ga_nil)))))))) (GE.m (ge_op op_mod r2_mod (GE.m (ge_ix ix_seq r2_ix (gm_var 1) (GE.m ge_int))) (GE.m ge_int)))))
  (gss_cons (gs_if (gt_cmp (op_neP hr.units) r2_ne (GE.m (ge_fn h__law_parse (hr.mono (by decide)) (ga_cons (ge_join (GE.m ge_str) (GE.m (GL.e (gl_op op_cat r2_catL (GE.m (GL.e (gl_op op_cat r2_catL (GE.m (GL.e (gl_sl (gm_var 3) go_none (go_some (gm_var 9))))) (GE.m (GL.e (gl_lst (ga_cons (ge_var 10) (ga_cons ge_str ga_nil)))))))) (GE.m (GL.e (gl_sl (gm_var 3) (go_some (gm_var 9)) go_none))))))) ga_nil))) (GE.m (GL.e (gl_lst (ga_cons ge_str (ga_cons (ge_var 9) ga_nil))))) (nomark _)) (gss_one (gs_ret ge_bl)) gss_nil)
  (gss_cons (gs_if (GW.t (gw_or (gt_cmp (op_neP hr.units) r2_ne (GE.m (ge_fn h__law_parse (hr.mono (by decide)) (ga_cons ge_str ga_nil))) (GE.m (GL.e (gl_lst (ga_cons ge_str (ga_cons ge_non ga_nil))))) (nomark _)) (gw_or1 (gt_cmp (op_neP hr.units) r2_ne (GE.m (ge_fn h__law_parse (hr.mono (by decide)) (ga_cons ge_str ga_nil))) (GE.m (GL.e (gl_lst (ga_cons ge_str (ga_cons ge_non ga_nil))))) (nomark _))))) (gss_one (gs_ret ge_bl)) gss_nil)
  (gss_one (gs_ret (ge_cmp (op_eqP hr.units) r2_eq (GE.m (ge_fn h__law_parse (hr.mono (by decide)) (ga_cons (ge_ix ix_seq r2_ix (GE.m (GL.e (gl_lst (ga_cons ge_non (ga_cons ge_int (ga_cons (ge_var 2) (ga_cons (GL.e (gl_lst (ga_cons (ge_var 4) ga_nil))) ga_nil))))))) (GE.m (ge_op op_mod r2_mod (GE.m (ge_ix ix_seq r2_ix (gm_var 1) (GE.m ge_int))) (GE.m ge_int)))) ga_nil))) (GE.m (GL.e (gl_lst (ga_cons ge_str (ga_cons ge_non ga_nil))))) (nomark _))))))))))))))))))⟩
abbrev st_pe : Stmt := inClass (topS 2) 0
theorem sc_pe : FnScope ["self", "line"] ["self", "line"] (defScope st_pe) := ⟨rfl, rfl, rfl, by decide +kernel, rfl, by decide +kernel, by decide +kernel⟩
theorem w_pe {fI C R : Addr} {fd : FuncData} {mcR : Value} (F : Fun K "__init__" "ParseError.__init__" st_pe fI fd) (g : mg "ParseError" = some (.ref C)) (o : OexC K C) (no : PySem.W.findIn K (.ref C) "line" = some none) (iC : PySem.W.findIn K (.ref C) "__init__" = some (some (.ref fI))) (tI : PySem.W.typeIn K (.ref fI) = some (.type "function"))
    (gR : mg "RingError" = some (.ref R)) (hr : ClX.CRead K R mcR) (vV : PySem.W.findCls K (.ref R) mcR "__init__" = some (.val (.builtin "ValueError.__init__"))) (b : Binds K fd ["self", "line"] []) : PeAt P w K mg base 1 C := by
  refine ⟨g, o, no, fI, fd, iC, tI, F.okX sc_pe (fun vs H Q E h => ?_) (fun cdv A outer s H vs Q E hr2 h => ?_), b⟩
  · obtain ⟨a, C', v, rfl, _⟩ := h
    rfl
  · exact ⟨_, pss_cons (ps_expr (pe_reinit gR hr vV (pa_cons (pv 0) (pa_cons pe_str pa_nil)))) (pss_one (ps_ost (pv 0) (pv 1))), init_meets h⟩
end
end Lw
set_option Elab.async false
set_option linter.all false
set_option maxRecDepth 100000
set_option maxHeartbeats 4000000
set_option autoImplicit false
namespace Lw
open PySem L2 Rf SX

theorem join_lines (s : Str) : Txt.join nlS (linesOf s) = s := by
  unfold linesOf
  rw [TL.join_eq]
  exact StrLaws.join_split s nlS
theorem lines_small (s : Str) : (linesOf s).length ≤ s.length + 1 ∧ ∀ l ∈ linesOf s, l.length ≤ s.length := by
  have h : s.length = ((linesOf s).map (·.length)).sum + ((linesOf s).length - 1) * nlS.length := by
    conv => lhs; rw [← join_lines s]
    exact size_glued nlS (linesOf s)
  rw [show nlS.length = 1 from rfl, Nat.mul_one] at h
  refine ⟨by omega, fun l hl => ?_⟩
  have : l.length ≤ ((linesOf s).map (·.length)).sum := by
    generalize linesOf s = L at hl
    induction L with
    | nil => cases hl
    | cons a L ih =>
      rw [List.map_cons, List.sum_cons]
      rcases List.mem_cons.mp hl with rfl | h2
      · omega
      · have := ih h2; omega
  omega
theorem lines_join {L : List Str} (hne : L ≠ []) (hn : ∀ l ∈ L, 10 ∉ l.cps.toList) : linesOf (Txt.join nlS L) = L :=
  TL.split_join (y := nlS) (s := 10) (S := []) rfl (by decide +kernel) hne hn
theorem row_nl (r : List Bool) : 10 ∉ (rowS r).cps.toList := by
  unfold rowS
  intro h
  have h : 10 ∈ r.map dg := h
  obtain ⟨b, _, e⟩ := List.mem_map.mp h
  cases b <;> cases e
theorem firstBad_at {L : List Str} {k : Nat} (hk : k < L.length) (h1 : ∀ i, i < k → badS (L.getD i nlS) = false) (h2 : badS (L.getD k nlS) = true) : firstBad L = some k := by
  unfold firstBad
  have e : List.range L.length = List.range k ++ (k :: (List.range (L.length - (k + 1))).map fun i => k + 1 + i) := by
    have : L.length = (k + 1) + (L.length - (k + 1)) := by omega
    conv => lhs; rw [this]
    rw [List.range_add, List.range_succ, List.append_assoc]
    rfl
  rw [e, List.findSome?_append, List.findSome?_cons, h2]
  have : (List.range k).findSome? (fun k => if badS (L.getD k nlS) then some k else none) = none := by
    rw [List.findSome?_eq_none_iff]
    intro i hi
    rw [h1 i (List.mem_range.mp hi)]
    rfl
  rw [this]
  rfl
theorem firstBad_none {L : List Str} (h : ∀ l ∈ L, badS l = false) : firstBad L = none := by
  unfold firstBad
  rw [List.findSome?_eq_none_iff]
  intro i hi
  have hi := List.mem_range.mp hi
  rw [List.getD_eq_getElem?_getD, List.getElem?_eq_getElem hi, Option.getD_some, h _ (List.getElem_mem hi)]
  rfl
theorem good_none {L : List Str} (h : firstBad L = none) : ∀ l ∈ L, badS l = false := fun l hm => by
  obtain ⟨k, hk⟩ := List.getElem?_of_mem hm
  have hk1 := (List.getElem?_eq_some_iff.mp hk).1
  unfold firstBad at h
  rw [List.findSome?_eq_none_iff] at h
  have := h k (List.mem_range.mpr hk1)
  rw [List.getD_eq_getElem?_getD, hk] at this
  cases z : badS l with
  | false => rfl
  | true =>
    rw [show (some l).getD nlS = l from rfl, z] at this
    cases this
theorem map_bits (t : Tb) : (t.map rowS).map bits = t := by
  rw [List.map_map]
  have : (bits ∘ rowS) = id := by funext r; exact bits_row r
  rw [this, List.map_id]
theorem Tz.rows {t : Tb} {R C : Nat} (z : Tz t R C) : ∀ l ∈ t.map rowS, badS l = false := fun l hl => by
  obtain ⟨r, hr, rfl⟩ := List.mem_map.mp hl
  refine rowS_good fun e => ?_
  have h1 := z.sz.row r hr
  have h2 := z.c1
  rw [e] at h1
  simp at h1
  omega
theorem Tz.ne {t : Tb} {R C : Nat} (z : Tz t R C) : t.map rowS ≠ [] := fun e => by
  have h1 := z.sz.len
  have h2 := z.r1
  rw [List.map_eq_nil_iff.mp e] at h1
  simp at h1
  omega
theorem text_len {t : Tb} {R C : Nat} (z : Tz t R C) : (textS t).length ≤ 100 := by
  have h : (textS t).length = ((t.map rowS).map (·.length)).sum + ((t.map rowS).length - 1) * nlS.length := size_glued nlS _
  have s1 := sum_one (fun s : Str => s.length) 5 (t.map rowS) fun x hx => by
    obtain ⟨r, hr, rfl⟩ := List.mem_map.mp hx
    have := z.sz.row r hr
    have := z.c5
    rw [rowS_len]
    omega
  rw [show nlS.length = 1 from rfl] at h
  rw [List.length_map] at h s1
  have := z.sz.len
  have := z.r5
  omega
/-- what parsing comes to -/
theorem parse_small (s : Str) (hs : s.length ≤ 1000) : F_parse_table [.str s] =
    match firstBad (linesOf s) with
    | some k => some (.er (.line (iN k)))
    | none => if isTab (encT ((linesOf s).map bits)) then some (.ok (encT ((linesOf s).map bits))) else some (.er (.line .non)) := by
  have := lines_small s
  exact parse_eq s (by omega) (by omega) fun l hl => by have := this.2 l hl; omega
theorem parse_text {t : Tb} {R C : Nat} (z : Tz t R C) : F_parse_table [.str (textS t)] = some (.ok (encT t)) := by
  have h1 : linesOf (textS t) = t.map rowS := lines_join z.ne fun l hl => by
    obtain ⟨r, _, rfl⟩ := List.mem_map.mp hl
    exact row_nl r
  rw [parse_small _ (by have := text_len z; omega), h1, firstBad_none z.rows, map_bits]
  dsimp only
  rw [z.tab, if_pos rfl]
theorem parse_any (s : Str) (hs : s.length ≤ 1000) : (∃ d, pl d 1 = true ∧ F_parse_table [.str s] = some (.er (.line d))) ∨ ∃ t R C, Tz t R C ∧ textS t = s ∧ F_parse_table [.str s] = some (.ok (encT t)) := by
  rw [parse_small s hs]
  cases hb : firstBad (linesOf s) with
  | some k => exact .inl ⟨_, rfl, rfl⟩
  | none =>
    dsimp only
    cases ht : isTab (encT ((linesOf s).map bits)) with
    | false => exact .inl ⟨.non, rfl, rfl⟩
    | true =>
      obtain ⟨R, C, z⟩ := tz_of ht
      refine .inr ⟨_, R, C, z, ?_, rfl⟩
      unfold textS
      have : ((linesOf s).map bits).map rowS = linesOf s := by
        rw [List.map_map]
        have : ∀ l ∈ linesOf s, (rowS ∘ bits) l = l := fun l hl => good_row (good_none hb l hl)
        rw [List.map_congr_left this, List.map_id']
      rw [this, join_lines]
theorem parse_other {d : D} (h : aIsi "str" (aVarM 0) [.im d, .no, .no, .no, .no, .no] = some (.bl false)) : F_parse_table [d] = some (.er (.line .non)) := by
  unfold F_parse_table a_parse_table runF
  rw [show en0 5 [d] = [.im d, .no, .no, .no, .no, .no] from rfl]
  unfold aSeq aIfS tNot' aTr
  rw [h]
  rfl
theorem law_parse_ok {d v : D} (h : F_parse_table [d] = some (.ok v)) : F__law_parse [d] = some (.ok (.lst [v])) := by
  unfold F__law_parse a__law_parse runF aTryL aRetX xLst aCallX aCons aNil
  rw [show en0 1 [d] = [.im d, .no] from rfl]
  simp only [aVar, List.getElem?_cons_zero, h, ofOut]
theorem law_parse_er {d x : D} (h : F_parse_table [d] = some (.er (.line x))) : F__law_parse [d] = some (.ok (.lst [.str "line", x])) := by
  have k1 : okX ["ParseError", "RingError", "InvalidTable"] (.line x) = true := by
    show decide (("ParseError" : Str) ∈ (["ParseError", "RingError", "InvalidTable"] : List Str)) = true
    decide +kernel
  have k2 : hdL [("ParseError", s__law_parse_1)] (.line x) = some (s__law_parse_1 (.line x)) := by
    show (if subX "ParseError" "ParseError" then _ else _) = _
    rw [show subX "ParseError" "ParseError" = true by decide +kernel]
    rfl
  have k3 : s__law_parse_1 (.line x) [.im d, .no] = some (.rt (.lst [.str "line", x])) := by
    unfold s__law_parse_1
    have b1 : subX "ParseError" "RingError" = true := by decide +kernel
    have b2 : subX "ParseError" "InvalidTable" = false := by decide +kernel
    simp [b1, b2, aRet, aIf, tAnd', tNot', aTr, aC, tru, aLst, aCons, aNil]
  unfold F__law_parse a__law_parse runF aTryL aRetX xLst aCallX aCons aNil
  rw [show en0 1 [d] = [.im d, .no] from rfl]
  simp only [aVar, List.getElem?_cons_zero, h, k1, k2, if_true]
  rw [if_pos (by simp)]
  rw [show ([.im d, .no] : En).set 1 .no = [.im d, .no] from rfl, k3]
  rfl
/-! ## texts, by length -/
def St (n : Nat) (d : D) : Prop := ∃ z : Str, d = .str z ∧ z.length ≤ n
section
variable {E : En} {f g : AE} {n m : Nat}
theorem st_add (h1 : Ev (St n) f E) (h2 : Ev (St m) g E) (hb : n + m ≤ 100000 := by decide) : Ev (St (n + m)) (a2 dAdd f g) E := by
  obtain ⟨_, e1, x, rfl, l1⟩ := h1
  obtain ⟨_, e2, y, rfl, l2⟩ := h2
  refine ⟨.str (x ++ y), a2_eq e1 e2 ?_, _, rfl, by rw [Str.length_append]; omega⟩
  show (if x.length + y.length ≤ 100000 then _ else none) = _
  rw [if_pos (by omega)]
theorem st_sl {lo hi : AO} {l u : Option Int} (h1 : Ev (St n) f E) (h2 : lo E = some l) (h3 : hi E = some u) (hb : n ≤ 100000 := by decide) : Ev (St n) (aSl dSl f lo hi) E := by
  obtain ⟨_, e1, x, rfl, l1⟩ := h1
  refine ⟨.str (cutS x l u), ?_, _, rfl, Nat.le_trans (cutS_length x l u) l1⟩
  unfold aSl
  rw [e1]
  dsimp only
  rw [h2]
  dsimp only
  rw [h3]
  show (if x.length ≤ 100000 then _ else none) = _
  rw [if_pos (by omega)]
theorem st_c {z : Str} (h : z.length ≤ n) : Ev (St n) (aC (.str z)) E := ⟨_, rfl, z, rfl, h⟩
theorem st_le (h : Ev (St n) f E) (hb : n ≤ m := by decide) : Ev (St m) f E := h.imp fun d ⟨z, e, l⟩ => ⟨z, e, Nat.le_trans l hb⟩
end
theorem pick_mem {ds : List D} {k : Nat} (h : k < ds.length) : ∃ d ∈ ds, dIx (.lst ds) (iN k) = some d := ⟨_, List.getElem_mem h, atI_lit ds k h⟩
theorem law11 (ns : List Int) : F_law_k11 [.scr ns] = some (.ok (.bl true)) := by
  obtain ⟨dd, x, e1, hx⟩ := draws_eq ns 4 (by omega)
  obtain ⟨t, R, C, z, e2⟩ := tabZ ns
  have hR := z.sz.len
  have hR5 := z.r5
  have d0 : dIx dd (.int 0) = some (iN (x 0)) := hx 0 (by omega)
  have d1 : dIx dd (.int 1) = some (iN (x 1)) := hx 1 (by omega)
  have d2 : dIx dd (.int 2) = some (iN (x 2)) := hx 2 (by omega)
  have d3 : dIx dd (.int 3) = some (iN (x 3)) := hx 3 (by omega)
  have d4 : dIx dd (.int 4) = some (iN (x 4)) := hx 4 (by omega)
  have d5 : dIx dd (.int 5) = some (iN (x 5)) := hx 5 (by omega)
  have tl := text_len z
  suffices hh : a_law_k11 [.im (.scr ns), .no, .no, .no, .no, .no, .no, .no, .no, .no, .no, .no, .no] = some (.rt (.bl true)) by
    unfold F_law_k11 runF
    rw [show en0 12 [.scr ns] = [.im (.scr ns), .no, .no, .no, .no, .no, .no, .no, .no, .no, .no, .no, .no] from rfl, hh]
    rfl
  unfold a_law_k11
  refine ev_set dd (call2 rfl rfl e1) ?_
  dsimp only [List.set]
  refine ev_set (encT t) (call3 rfl rfl rfl e2) ?_
  dsimp only [List.set]
  refine ev_set (.lst ((t.map rowS).map D.str)) ?_ ?_
  · unfold aLst
    rw [lines_txt (t := t) (e := e_law_k11_2) rfl (by simp) (by omega) fun r hr E' hl hE => ?_]
    unfold e_law_k11_2 e_law_k11_1
    have hl' : E'.length = 13 := hl
    exact row_txt rfl hE (by omega) (by have := z.sz.row r hr; have := z.c5; omega)
  dsimp only [List.set]
  refine ev_set (.str (textS t)) (join_txt z rfl) ?_
  dsimp only [List.set]
  refine ev_ifF ?_ ?_
  · have p1 := law_parse_ok (parse_text z)
    have n1 : a2t dNe (aCall F_format_table (aCons (aVar 2) aNil)) (aVarM 4) [.im (.scr ns), .im dd, .im (encT t), .im (.lst ((t.map rowS).map D.str)), .im (.str (textS t)), .no, .no, .no, .no, .no, .no, .no, .no] = some false :=
      a2t_eq (call1 rfl (format_eq z)) rfl (ne_self rfl)
    have n2 : a2t dNe (aCall F__law_parse (aCons (aVar 4) aNil)) (aLst (aCons (aVar 2) aNil)) [.im (.scr ns), .im dd, .im (encT t), .im (.lst ((t.map rowS).map D.str)), .im (.str (textS t)), .no, .no, .no, .no, .no, .no, .no, .no] = some false :=
      a2t_eq (call1 rfl p1) rfl (ne_self (by rw [pl, pls, plT t 5]; rfl))
    unfold tOr'
    rw [n1]
    exact n2
  have ln : dLen [.str (textS t)] = some (iN (textS t).length) := by
    show (if (textS t).length ≤ 100000 then _ else none) = _
    rw [if_pos (by omega)]
    rfl
  refine ev_set (iN (x 0 % ((textS t).length + 1))) ?_ ?_
  · refine a2_eq (a2_eq rfl rfl d0) (a2_eq (aF_eq rfl ln) rfl (add_iN _ 1)) (mod_iN (by omega))
  dsimp only [List.set]
  obtain ⟨nw, nwm, nwe⟩ := pick_mem (ds := [.str "0", .str "\n", .str "1", .str "2", .str " ", .str "\n0"]) (k := x 1 % 6) (Nat.mod_lt _ (by decide))
  have nwl : St 2 nw := by
    simp only [List.mem_cons, List.not_mem_nil, or_false] at nwm
    rcases nwm with rfl | rfl | rfl | rfl | rfl | rfl
    all_goals exact ⟨_, rfl, by decide +kernel⟩
  refine ev_set nw (a2_eq rfl (a2_eq (a2_eq rfl rfl d1) rfl (modlit _ 6 (by decide))) nwe) ?_
  dsimp only [List.set]
  generalize hE : ([.im (.scr ns), .im dd, .im (encT t), .im (.lst ((t.map rowS).map D.str)), .im (.str (textS t)), .im (iN (x 0 % ((textS t).length + 1))), .im nw, .no, .no, .no, .no, .no, .no] : En) = E7
  have E4 : Ev (St 100) (aVarM 4) E7 := by subst hE; exact ⟨_, rfl, _, rfl, tl⟩
  have E6 : Ev (St 2) (aVarM 6) E7 := by subst hE; exact ⟨_, rfl, nwl⟩
  have P5 : aPart (aVarM 5) E7 = some (some ((x 0 % ((textS t).length + 1) : Nat) : Int)) := by subst hE; rfl
  have P51 : aPart (a2 dAdd (aVarM 5) (aC (.int 1))) E7 = some (some (((x 0 % ((textS t).length + 1) + 1 : Nat)) : Int)) := by
    subst hE
    unfold aPart
    rw [a2_eq (r := iN (x 0 % ((textS t).length + 1) + 1)) rfl rfl (add_iN _ 1)]
    rfl
  have c1 := st_add (st_sl (lo := aNoP) E4 rfl P5) (st_sl (hi := aNoP) E4 P51 rfl)
  have c2 := st_add (st_add (st_sl (lo := aNoP) E4 rfl P5) E6) (st_sl (hi := aNoP) E4 P5 rfl)
  have c3 := st_add E4 (st_c (E := E7) (n := 1) (z := "\n") (by decide +kernel))
  have c4 := st_add (st_c (E := E7) (n := 1) (z := " ") (by decide +kernel)) E4
  obtain ⟨v1, q1, s1⟩ := st_le (m := 1000) c1
  obtain ⟨v2, q2, s2⟩ := st_le (m := 1000) c2
  obtain ⟨v3, q3, s3⟩ := st_le (m := 1000) c3
  obtain ⟨v4, q4, s4⟩ := st_le (m := 1000) c4
  obtain ⟨ed, edm, ede⟩ := pick_mem (ds := [v1, v2, v3, v4]) (k := x 2 % 4) (Nat.mod_lt _ (by decide))
  have edl : St 1000 ed := by
    simp only [List.mem_cons, List.not_mem_nil, or_false] at edm
    rcases edm with rfl | rfl | rfl | rfl
    · exact s1
    · exact s2
    · exact s3
    · exact s4
  have D2 : a2 dMod (a2 dIx (aVarM 1) (aC (.int 2))) (aC (.int 4)) E7 = some (iN (x 2 % 4)) := by
    subst hE
    exact a2_eq (a2_eq rfl rfl d2) rfl (modlit _ 4 (by decide))
  refine ev_set ed (a2_eq (d := .lst [v1, v2, v3, v4]) ?_ D2 ede) ?_
  · unfold aLst aCons aNil
    simp only [q1, q2, q3, q4]
  subst hE
  dsimp only [List.set]
  obtain ⟨es, rfl, esl⟩ := edl
  have fnd : ∃ h0 rest, F__law_parse [.str es] = some (.ok (.lst (h0 :: rest))) ∧ ((h0 = .str "line") ∨ ∃ t' R' C', Tz t' R' C' ∧ h0 = encT t' ∧ textS t' = es) := by
    rcases parse_any es esl with ⟨d, hd, h⟩ | ⟨t', R', C', z', e', h⟩
    · exact ⟨_, _, law_parse_er h, .inl rfl⟩
    · exact ⟨_, _, law_parse_ok h, .inr ⟨t', R', C', z', rfl, e'⟩⟩
  obtain ⟨h0, rest, fe, fc⟩ := fnd
  refine ev_set (.lst (h0 :: rest)) (call1 rfl fe) ?_
  dsimp only [List.set]
  have ix0 : dIx (.lst (h0 :: rest)) (.int 0) = some h0 := atI_lit (h0 :: rest) 0 (by simp)
  refine ev_ifF ?_ ?_
  · unfold tOr' tAnd'
    rcases fc with rfl | ⟨t', R', C', z', rfl, e'⟩
    · rw [a2t_eq (r := false) (a2_eq rfl rfl ix0) rfl (by decide +kernel)]
      dsimp only
      rw [a2t_eq (r := false) (a2_eq rfl rfl ix0) rfl (by decide +kernel)]
    · have p1 : dEq (encT t') (.str "other") = some false := by unfold dEq; rw [plT t' 6]; rfl
      have p2 : dNe (encT t') (.str "line") = some true := by unfold dNe; rw [plT t' 6]; rfl
      rw [a2t_eq (r := false) (a2_eq rfl rfl ix0) rfl p1]
      dsimp only
      rw [a2t_eq (r := true) (a2_eq rfl rfl ix0) rfl p2]
      dsimp only
      refine a2t_eq (call1 (a2_eq rfl rfl ix0) (format_eq z')) rfl ?_
      rw [e']
      exact ne_self rfl
  refine ev_set (iN (x 3 % (R + 1))) ?_ ?_
  · exact a2_eq (a2_eq rfl rfl d3) (a2_eq (aF_eq rfl z.sz.lenT) rfl (add_iN _ 1)) (mod_iN (by omega))
  dsimp only [List.set]
  obtain ⟨wr, wrm, wre⟩ := pick_mem (ds := [.str "", .str "2", .str "0 1", .str "-1", .str "x"]) (k := x 4 % 5) (Nat.mod_lt _ (by decide))
  have wrl : ∃ w : Str, wr = .str w ∧ w.length ≤ 3 ∧ badS w = true ∧ 10 ∉ w.cps.toList := by
    simp only [List.mem_cons, List.not_mem_nil, or_false] at wrm
    rcases wrm with rfl | rfl | rfl | rfl | rfl
    all_goals exact ⟨_, rfl, by decide +kernel, by decide +kernel, by decide +kernel⟩
  refine ev_set wr (a2_eq rfl (a2_eq (a2_eq rfl rfl d4) rfl (modlit _ 5 (by decide))) wre) ?_
  dsimp only [List.set]
  obtain ⟨w, rfl, wl, wb, wn⟩ := wrl
  generalize hat : x 3 % (R + 1) = at'
  have hat1 : at' ≤ R := by rw [← hat]; have := Nat.mod_lt (x 3) (show 0 < R + 1 by omega); omega
  refine ev_ifF ?_ ?_
  · have hlen : (t.map rowS).length = R := by rw [List.length_map]; exact hR
    have L1 : ∀ E : En, E[3]? = some (.im (.lst ((t.map rowS).map D.str))) → E[9]? = some (.im (iN at')) → alSl (aVarM 3) aNoP (aPart (aVarM 9)) E = some (((t.map rowS).take at').map D.str) := fun E h3 h9 => by
      unfold alSl aVarM aNoP aPart
      rw [h3]
      dsimp only
      rw [h9]
      dsimp only [iN]
      rw [cut_take (by rw [List.length_map, hlen]; exact hat1), List.map_take]
    have L2 : ∀ E : En, E[3]? = some (.im (.lst ((t.map rowS).map D.str))) → E[9]? = some (.im (iN at')) → alSl (aVarM 3) (aPart (aVarM 9)) aNoP E = some (((t.map rowS).drop at').map D.str) := fun E h3 h9 => by
      unfold alSl aVarM aNoP aPart
      rw [h3]
      dsimp only
      rw [h9]
      dsimp only [iN]
      rw [cut_drop (by rw [List.length_map, hlen]; exact hat1), List.map_drop]
    generalize hL : ((t.map rowS).take at' ++ [w, "y"]) ++ (t.map rowS).drop at' = LL
    have good := z.rows
    have hy : badS "y" = true := by decide +kernel
    have yn : 10 ∉ (("y" : String) : Str).cps.toList := by decide +kernel
    have mem : ∀ l ∈ LL, l ∈ t.map rowS ∨ l = w ∨ l = (("y" : String) : Str) := fun l hl => by
      rw [← hL] at hl
      simp only [List.mem_append, List.mem_cons, List.not_mem_nil, or_false] at hl
      rcases hl with (h | h) | h
      · exact .inl (List.mem_of_mem_take h)
      · exact .inr h
      · exact .inl (List.mem_of_mem_drop h)
    have hLl : LL.length = R + 2 := by
      rw [← hL, List.length_append, List.length_append, List.length_take, List.length_drop, hlen]
      simp
      omega
    have lnl : linesOf (Txt.join nlS LL) = LL := lines_join (fun e => by rw [e] at hLl; simp at hLl) fun l hl => by
      rcases mem l hl with h | rfl | rfl
      · obtain ⟨r, _, rfl⟩ := List.mem_map.mp h
        exact row_nl r
      · exact wn
      · exact yn
    have lsum := sum_one (fun s : Str => s.length) 5 LL fun l hl => by
      rcases mem l hl with h | rfl | rfl
      · obtain ⟨r, hr, rfl⟩ := List.mem_map.mp h
        have := z.sz.row r hr
        have := z.c5
        rw [rowS_len]
        omega
      · omega
      · decide +kernel
    have jl : (Txt.join nlS LL).length ≤ 1000 := by
      have h : (Txt.join nlS LL).length = (LL.map (·.length)).sum + (LL.length - 1) * nlS.length := size_glued nlS _
      rw [show nlS.length = 1 from rfl] at h
      omega
    have fb : firstBad LL = some at' := by
      have tk : ((t.map rowS).take at').length = at' := by rw [List.length_take, hlen]; omega
      refine firstBad_at (by omega) (fun i hi => ?_) ?_
      · have : LL.getD i nlS ∈ t.map rowS := by
          rw [← hL, List.append_assoc, List.getD_eq_getElem?_getD, List.getElem?_append_left (by rw [tk]; exact hi), List.getElem?_eq_getElem (by rw [tk]; exact hi)]
          exact List.mem_of_mem_take (List.getElem_mem _)
        exact good _ this
      · rw [← hL, List.append_assoc, List.getD_eq_getElem?_getD, List.getElem?_append_right (by rw [tk]; exact Nat.le_refl _), tk, Nat.sub_self]
        exact wb
    have pr := law_parse_er (show F_parse_table [.str (Txt.join nlS LL)] = some (.er (.line (iN at'))) by rw [parse_small _ jl, lnl, fb])
    refine a2t_eq (call1 (d := .str (Txt.join nlS LL)) ?_ pr) rfl (ne_self rfl)
    simp only [aJoin, aC, aLst, al2, aCons, aNil, aVar, List.getElem?_cons_zero, List.getElem?_cons_succ]
    rw [L1 _ rfl rfl, L2 _ rfl rfl]
    dsimp only
    have m1 : lAdd (.lst (((t.map rowS).take at').map D.str)) (.lst [.str w, .str "y"]) = some ((((t.map rowS).take at') ++ [w, "y"]).map D.str) := by
      show (if _ ≤ 100000 then _ else none) = _
      rw [if_pos (by rw [List.length_map, List.length_take, hlen]; simp; omega), List.map_append]
      rfl
    rw [m1]
    dsimp only
    have m2 : lAdd (.lst ((((t.map rowS).take at') ++ [w, "y"]).map D.str)) (.lst (((t.map rowS).drop at').map D.str)) = some (LL.map D.str) := by
      show (if _ ≤ 100000 then _ else none) = _
      rw [if_pos (by rw [List.length_map, List.length_map, List.length_append, List.length_take, List.length_drop, hlen]; simp; omega), ← List.map_append, hL]
    rw [m2]
    dsimp only
    rw [strsOf_map]
    dsimp only
    rw [nl_eq, if_pos (by rw [show nlS.length = 1 from rfl]; omega)]
  have cc : ∀ (u : Str) (t0 : Tb), t0.map rowS ≠ [] → (∀ l ∈ t0.map rowS, badS l = false) → isTab (encT t0) = false → u = textS t0 → u.length ≤ 1000 → F__law_parse [.str u] = some (.ok (.lst [.str "line", .non])) := fun u t0 h1 h2 h3 h4 h5 => by
    refine law_parse_er ?_
    have h6 : linesOf u = t0.map rowS := by
      rw [h4]
      exact lines_join h1 fun l hl => by
        obtain ⟨r, _, rfl⟩ := List.mem_map.mp hl
        exact row_nl r
    rw [parse_small u h5, h6, firstBad_none h2, map_bits]
    dsimp only
    rw [h3]
    rfl
  have k1 := cc "0\n00" [[false], [false, false]] (by simp) (by decide +kernel) (by decide +kernel) (by decide +kernel) (by decide +kernel)
  have k2 := cc "000000" [[false, false, false, false, false, false]] (by simp) (by decide +kernel) (by decide +kernel) (by decide +kernel) (by decide +kernel)
  refine ev_ifF ?_ ?_
  · unfold tOr'
    rw [a2t_eq (r := false) (call1 rfl k1) rfl (ne_self rfl)]
    dsimp only
    exact a2t_eq (call1 rfl k2) rfl (ne_self rfl)
  obtain ⟨ov, ovm, ove⟩ := pick_mem (ds := [.non, .int 7, encT t, .lst [.str (textS t)]]) (k := x 5 % 4) (Nat.mod_lt _ (by decide))
  have ovp : F_parse_table [ov] = some (.er (.line .non)) := by
    simp only [List.mem_cons, List.not_mem_nil, or_false] at ovm
    rcases ovm with rfl | rfl | rfl | rfl
    all_goals exact parse_other rfl
  refine ev_ret (a2_eq (d := .lst [.str "line", .non]) (call1 (d := ov) ?_ (law_parse_er ovp)) rfl ?_)
  · exact a2_eq rfl (a2_eq (a2_eq rfl rfl d5) rfl (modlit _ 4 (by decide))) ove
  · unfold bv
    rw [eq_self rfl]
end Lw
set_option Elab.async false
set_option linter.all false
set_option maxRecDepth 100000
set_option maxHeartbeats 4000000
namespace Lw
open PySem L2 Rf PyProof.Rows
theorem all_mk {P : Program} {w : World} {K : Fg} {h : Heap} {mg : Str → Option Value} {fa : Addr} (X : K.In h) (G : h.Ns mainGlobals mg) (hfa : mg "law" = some (.ref fa))
    {f0 : Addr} {od0 an0 : Option Addr} {sl0 : Array (Option Value)} {oc0 kV0 dc0 pm0 cd0 ct0 : Value}
    (a0 : PySem.W.nsIn K mainGlobals "in_range" = some (some (.ref f0))) (l0 : K.lookup f0 = some ⟨oc0, od0, .func (PySem.W.fnOf "in_range" "in_range" (defArgs st_in_range) (defBody st_in_range) (defScope st_in_range) .none kV0 dc0 pm0 an0 cd0 ct0), sl0⟩) (c0 : PySem.W.codeIn K cd0 "in_range" = true) (k0 : PySem.W.keepIn K (.ref f0) = true)
    {f1 : Addr} {od1 an1 : Option Addr} {sl1 : Array (Option Value)} {oc1 kV1 dc1 pm1 cd1 ct1 : Value}
    (a1 : PySem.W.nsIn K mainGlobals "is_table" = some (some (.ref f1))) (l1 : K.lookup f1 = some ⟨oc1, od1, .func (PySem.W.fnOf "is_table" "is_table" (defArgs st_is_table) (defBody st_is_table) (defScope st_is_table) .none kV1 dc1 pm1 an1 cd1 ct1), sl1⟩) (c1 : PySem.W.codeIn K cd1 "is_table" = true) (k1 : PySem.W.keepIn K (.ref f1) = true)
    {f2 : Addr} {od2 an2 : Option Addr} {sl2 : Array (Option Value)} {oc2 kV2 dc2 pm2 cd2 ct2 : Value}
    (a2 : PySem.W.nsIn K mainGlobals "check_table" = some (some (.ref f2))) (l2 : K.lookup f2 = some ⟨oc2, od2, .func (PySem.W.fnOf "check_table" "check_table" (defArgs st_check_table) (defBody st_check_table) (defScope st_check_table) .none kV2 dc2 pm2 an2 cd2 ct2), sl2⟩) (c2 : PySem.W.codeIn K cd2 "check_table" = true) (k2 : PySem.W.keepIn K (.ref f2) = true)
    {f3 : Addr} {od3 an3 : Option Addr} {sl3 : Array (Option Value)} {oc3 kV3 dc3 pm3 cd3 ct3 : Value}
    (a3 : PySem.W.nsIn K mainGlobals "text_of" = some (some (.ref f3))) (l3 : K.lookup f3 = some ⟨oc3, od3, .func (PySem.W.fnOf "text_of" "text_of" (defArgs st_text_of) (defBody st_text_of) (defScope st_text_of) .none kV3 dc3 pm3 an3 cd3 ct3), sl3⟩) (c3 : PySem.W.codeIn K cd3 "text_of" = true) (k3 : PySem.W.keepIn K (.ref f3) = true)
    {f4 : Addr} {od4 an4 : Option Addr} {sl4 : Array (Option Value)} {oc4 kV4 dc4 pm4 cd4 ct4 : Value}
    (a4 : PySem.W.nsIn K mainGlobals "format_table" = some (some (.ref f4))) (l4 : K.lookup f4 = some ⟨oc4, od4, .func (PySem.W.fnOf "format_table" "format_table" (defArgs st_format_table) (defBody st_format_table) (defScope st_format_table) .none kV4 dc4 pm4 an4 cd4 ct4), sl4⟩) (c4 : PySem.W.codeIn K cd4 "format_table" = true) (k4 : PySem.W.keepIn K (.ref f4) = true)
    {f5 : Addr} {od5 an5 : Option Addr} {sl5 : Array (Option Value)} {oc5 kV5 dc5 pm5 cd5 ct5 : Value}
    (a5 : PySem.W.nsIn K mainGlobals "parse_table" = some (some (.ref f5))) (l5 : K.lookup f5 = some ⟨oc5, od5, .func (PySem.W.fnOf "parse_table" "parse_table" (defArgs st_parse_table) (defBody st_parse_table) (defScope st_parse_table) .none kV5 dc5 pm5 an5 cd5 ct5), sl5⟩) (c5 : PySem.W.codeIn K cd5 "parse_table" = true) (k5 : PySem.W.keepIn K (.ref f5) = true)
    {f6 : Addr} {od6 an6 : Option Addr} {sl6 : Array (Option Value)} {oc6 kV6 dc6 pm6 cd6 ct6 : Value}
    (a6 : PySem.W.nsIn K mainGlobals "_law_cell" = some (some (.ref f6))) (l6 : K.lookup f6 = some ⟨oc6, od6, .func (PySem.W.fnOf "_law_cell" "_law_cell" (defArgs st__law_cell) (defBody st__law_cell) (defScope st__law_cell) .none kV6 dc6 pm6 an6 cd6 ct6), sl6⟩) (c6 : PySem.W.codeIn K cd6 "_law_cell" = true) (k6 : PySem.W.keepIn K (.ref f6) = true)
    {f7 : Addr} {od7 an7 : Option Addr} {sl7 : Array (Option Value)} {oc7 kV7 dc7 pm7 cd7 ct7 : Value}
    (a7 : PySem.W.nsIn K mainGlobals "_law_row" = some (some (.ref f7))) (l7 : K.lookup f7 = some ⟨oc7, od7, .func (PySem.W.fnOf "_law_row" "_law_row" (defArgs st__law_row) (defBody st__law_row) (defScope st__law_row) .none kV7 dc7 pm7 an7 cd7 ct7), sl7⟩) (c7 : PySem.W.codeIn K cd7 "_law_row" = true) (k7 : PySem.W.keepIn K (.ref f7) = true)
    {f8 : Addr} {od8 an8 : Option Addr} {sl8 : Array (Option Value)} {oc8 kV8 dc8 pm8 cd8 ct8 : Value}
    (a8 : PySem.W.nsIn K mainGlobals "_law_table" = some (some (.ref f8))) (l8 : K.lookup f8 = some ⟨oc8, od8, .func (PySem.W.fnOf "_law_table" "_law_table" (defArgs st__law_table) (defBody st__law_table) (defScope st__law_table) .none kV8 dc8 pm8 an8 cd8 ct8), sl8⟩) (c8 : PySem.W.codeIn K cd8 "_law_table" = true) (k8 : PySem.W.keepIn K (.ref f8) = true)
    {f9 : Addr} {od9 an9 : Option Addr} {sl9 : Array (Option Value)} {oc9 kV9 dc9 pm9 cd9 ct9 : Value}
    (a9 : PySem.W.nsIn K mainGlobals "_law_parse" = some (some (.ref f9))) (l9 : K.lookup f9 = some ⟨oc9, od9, .func (PySem.W.fnOf "_law_parse" "_law_parse" (defArgs st__law_parse) (defBody st__law_parse) (defScope st__law_parse) .none kV9 dc9 pm9 an9 cd9 ct9), sl9⟩) (c9 : PySem.W.codeIn K cd9 "_law_parse" = true) (k9 : PySem.W.keepIn K (.ref f9) = true)
    {f10 : Addr} {od10 an10 : Option Addr} {sl10 : Array (Option Value)} {oc10 kV10 dc10 pm10 cd10 ct10 : Value}
    (a10 : PySem.W.nsIn K mainGlobals "law" = some (some (.ref f10))) (l10 : K.lookup f10 = some ⟨oc10, od10, .func (PySem.W.fnOf "law" "law" (defArgs st_law) (defBody st_law) (defScope st_law) .none kV10 dc10 pm10 an10 cd10 ct10), sl10⟩) (c10 : PySem.W.codeIn K cd10 "law" = true) (k10 : PySem.W.keepIn K (.ref f10) = true)
    {C_ParseError : Addr} (xf_ParseError : XF K mg "ParseError" C_ParseError)
    {C_RingError : Addr} (xf_RingError : XF K mg "RingError" C_RingError)
    {C_InvalidTable : Addr} (xf_InvalidTable : XF K mg "InvalidTable" C_InvalidTable)
    (s_ParseError_ParseError : PySem.W.subIn K (.ref C_ParseError) (.ref C_ParseError) = some true)
    (s_ParseError_RingError : PySem.W.subIn K (.ref C_ParseError) (.ref C_RingError) = some true)
    (s_ParseError_InvalidTable : PySem.W.subIn K (.ref C_ParseError) (.ref C_InvalidTable) = some false)
    (s_RingError_ParseError : PySem.W.subIn K (.ref C_RingError) (.ref C_ParseError) = some false)
    (s_RingError_RingError : PySem.W.subIn K (.ref C_RingError) (.ref C_RingError) = some true)
    (s_RingError_InvalidTable : PySem.W.subIn K (.ref C_RingError) (.ref C_InvalidTable) = some false)
    (s_InvalidTable_ParseError : PySem.W.subIn K (.ref C_InvalidTable) (.ref C_ParseError) = some false)
    (s_InvalidTable_RingError : PySem.W.subIn K (.ref C_InvalidTable) (.ref C_RingError) = some true)
    (s_InvalidTable_InvalidTable : PySem.W.subIn K (.ref C_InvalidTable) (.ref C_InvalidTable) = some true)
    {fI : Addr} {odI anI : Option Addr} {slI : Array (Option Value)} {ocI kVI dcI pmI cdI ctI mcR : Value}
    (p_o : OexC K C_ParseError) (p_no : PySem.W.findIn K (.ref C_ParseError) "line" = some none) (p_i : PySem.W.findIn K (.ref C_ParseError) "__init__" = some (some (.ref fI))) (p_t : PySem.W.typeIn K (.ref fI) = some (.type "function"))
    (p_l : K.lookup fI = some ⟨ocI, odI, .func (PySem.W.fnOf "__init__" "ParseError.__init__" (defArgs st_pe) (defBody st_pe) (defScope st_pe) .none kVI dcI pmI anI cdI ctI), slI⟩) (p_c : PySem.W.codeIn K cdI "ParseError.__init__" = true) (p_k : PySem.W.keepIn K (.ref fI) = true)
    (p_r : PySem.W.readsIn K C_RingError mcR = true) (p_g : PySem.W.specialIn K (.ref C_RingError) "__getattribute__" = some (some (.builtin "type.__getattribute__"))) (p_v : PySem.W.findCls K (.ref C_RingError) mcR "__init__" = some (.val (.builtin "ValueError.__init__")))
    {t_MAX_SIZE : Tok} (m_MAX_SIZE : PySem.W.nsIn K mainGlobals "MAX_SIZE" = some (some (.int 5 t_MAX_SIZE)))
    (z_len : PySem.W.nsIn K mainGlobals "len" = some none)
    (z_range : PySem.W.nsIn K mainGlobals "range" = some none)
    (z_list : PySem.W.nsIn K mainGlobals "list" = some none)
    (z_tuple : PySem.W.nsIn K mainGlobals "tuple" = some none)
    (z_sorted : PySem.W.nsIn K mainGlobals "sorted" = some none)
    (z_set : PySem.W.nsIn K mainGlobals "set" = some none)
    (z_sum : PySem.W.nsIn K mainGlobals "sum" = some none)
    (z_min : PySem.W.nsIn K mainGlobals "min" = some none)
    (z_max : PySem.W.nsIn K mainGlobals "max" = some none)
    (z_int : PySem.W.nsIn K mainGlobals "int" = some none)
    (z_str : PySem.W.nsIn K mainGlobals "str" = some none)
    (z_bool : PySem.W.nsIn K mainGlobals "bool" = some none)
    (z_isinstance : PySem.W.nsIn K mainGlobals "isinstance" = some none)
    (z_enumerate : PySem.W.nsIn K mainGlobals "enumerate" = some none)
    (z_zip : PySem.W.nsIn K mainGlobals "zip" = some none)
    (z_ValueError : PySem.W.nsIn K mainGlobals "ValueError" = some none)
    : ∃ fd : FuncData, (∀ (s : Shared) (v : Value), BindsTo s fd ⟨[v], []⟩ [("script", v)]) ∧ ∀ base : Heap, K.In base → base.Ns mainGlobals mg → FnOk P w K mg base (L2.CX P w) 5 fa fd ["script"] (spLw K F_law_k11) := by
  have e := hfa.symm.trans (PySem.W.mg_of X G a10)
  cases e
  have bi : Bi mg := ⟨PySem.W.mg_none_of X G z_len, PySem.W.mg_none_of X G z_range, PySem.W.mg_none_of X G z_list, PySem.W.mg_none_of X G z_tuple, PySem.W.mg_none_of X G z_sorted, PySem.W.mg_none_of X G z_set, PySem.W.mg_none_of X G z_sum, PySem.W.mg_none_of X G z_min, PySem.W.mg_none_of X G z_max, PySem.W.mg_none_of X G z_int, PySem.W.mg_none_of X G z_str, PySem.W.mg_none_of X G z_bool, PySem.W.mg_none_of X G z_isinstance, PySem.W.mg_none_of X G z_enumerate, PySem.W.mg_none_of X G z_zip, PySem.W.mg_none_of X G z_ValueError⟩
  have c_MAX_SIZE : mg "MAX_SIZE" = some (.int 5 t_MAX_SIZE) ∧ L2.RelV (.int 5) (.int 5 t_MAX_SIZE) := ⟨PySem.W.mg_of X G m_MAX_SIZE, by first | rfl | exact ⟨_, rfl⟩⟩
  have xt : XT K mg (caOf [("ParseError", C_ParseError), ("RingError", C_RingError), ("InvalidTable", C_InvalidTable)]) ["ParseError", "RingError", "InvalidTable"] := xt_mk [("ParseError", C_ParseError), ("RingError", C_RingError), ("InvalidTable", C_InvalidTable)] (by show (["ParseError", "RingError", "InvalidTable"] : List Str).Nodup; decide +kernel) (List.forall_mem_cons.mpr ⟨xf_ParseError, (List.forall_mem_cons.mpr ⟨xf_RingError, (List.forall_mem_cons.mpr ⟨xf_InvalidTable, (List.forall_mem_nil _)⟩)⟩)⟩) (List.forall_mem_cons.mpr ⟨(List.forall_mem_cons.mpr ⟨s_ParseError_ParseError, (List.forall_mem_cons.mpr ⟨s_ParseError_RingError, (List.forall_mem_cons.mpr ⟨s_ParseError_InvalidTable, (List.forall_mem_nil _)⟩)⟩)⟩), (List.forall_mem_cons.mpr ⟨(List.forall_mem_cons.mpr ⟨s_RingError_ParseError, (List.forall_mem_cons.mpr ⟨s_RingError_RingError, (List.forall_mem_cons.mpr ⟨s_RingError_InvalidTable, (List.forall_mem_nil _)⟩)⟩)⟩), (List.forall_mem_cons.mpr ⟨(List.forall_mem_cons.mpr ⟨s_InvalidTable_ParseError, (List.forall_mem_cons.mpr ⟨s_InvalidTable_RingError, (List.forall_mem_cons.mpr ⟨s_InvalidTable_InvalidTable, (List.forall_mem_nil _)⟩)⟩)⟩), (List.forall_mem_nil _)⟩)⟩)⟩)
  have FI := fun_mk (st := st_pe) p_l p_c p_k
  have bI := FI.binds (ps := ["self", "line"]) fun _ _ _ _ _ _ us hl => match us, hl with | [_, _], _ => rfl
  have pno : PySem.W.findIn K (.ref (caOf [("ParseError", C_ParseError), ("RingError", C_RingError), ("InvalidTable", C_InvalidTable)] "ParseError")) "line" = some none := by
    have e : caOf [("ParseError", C_ParseError), ("RingError", C_RingError), ("InvalidTable", C_InvalidTable)] "ParseError" = C_ParseError := by
      unfold caOf
      rw [look_mem (p := ("ParseError", C_ParseError)) (by show (["ParseError", "RingError", "InvalidTable"] : List Str).Nodup; decide +kernel) (by simp)]
      rfl
    rw [e]; exact p_no
  have F0 := fun_mk (st := st_in_range) l0 c0 k0
  have d_in_range : DefAt K mg "in_range" st_in_range pl_in_range := ⟨_, _, F0, PySem.W.mg_of X G a0, F0.binds (ps := pl_in_range) fun _ _ _ _ _ _ us hl => match us, hl with | [_, _, _], _ => rfl⟩
  have F1 := fun_mk (st := st_is_table) l1 c1 k1
  have d_is_table : DefAt K mg "is_table" st_is_table pl_is_table := ⟨_, _, F1, PySem.W.mg_of X G a1, F1.binds (ps := pl_is_table) fun _ _ _ _ _ _ us hl => match us, hl with | [_], _ => rfl⟩
  have F2 := fun_mk (st := st_check_table) l2 c2 k2
  have d_check_table : DefAt K mg "check_table" st_check_table pl_check_table := ⟨_, _, F2, PySem.W.mg_of X G a2, F2.binds (ps := pl_check_table) fun _ _ _ _ _ _ us hl => match us, hl with | [_], _ => rfl⟩
  have F3 := fun_mk (st := st_text_of) l3 c3 k3
  have d_text_of : DefAt K mg "text_of" st_text_of pl_text_of := ⟨_, _, F3, PySem.W.mg_of X G a3, F3.binds (ps := pl_text_of) fun _ _ _ _ _ _ us hl => match us, hl with | [_], _ => rfl⟩
  have F4 := fun_mk (st := st_format_table) l4 c4 k4
  have d_format_table : DefAt K mg "format_table" st_format_table pl_format_table := ⟨_, _, F4, PySem.W.mg_of X G a4, F4.binds (ps := pl_format_table) fun _ _ _ _ _ _ us hl => match us, hl with | [_], _ => rfl⟩
  have F5 := fun_mk (st := st_parse_table) l5 c5 k5
  have d_parse_table : DefAt K mg "parse_table" st_parse_table pl_parse_table := ⟨_, _, F5, PySem.W.mg_of X G a5, F5.binds (ps := pl_parse_table) fun _ _ _ _ _ _ us hl => match us, hl with | [_], _ => rfl⟩
  have F6 := fun_mk (st := st__law_cell) l6 c6 k6
  have d__law_cell : DefAt K mg "_law_cell" st__law_cell pl__law_cell := ⟨_, _, F6, PySem.W.mg_of X G a6, F6.binds (ps := pl__law_cell) fun _ _ _ _ _ _ us hl => match us, hl with | [_, _], _ => rfl⟩
  have F7 := fun_mk (st := st__law_row) l7 c7 k7
  have d__law_row : DefAt K mg "_law_row" st__law_row pl__law_row := ⟨_, _, F7, PySem.W.mg_of X G a7, F7.binds (ps := pl__law_row) fun _ _ _ _ _ _ us hl => match us, hl with | [_, _], _ => rfl⟩
  have F8 := fun_mk (st := st__law_table) l8 c8 k8
  have d__law_table : DefAt K mg "_law_table" st__law_table pl__law_table := ⟨_, _, F8, PySem.W.mg_of X G a8, F8.binds (ps := pl__law_table) fun _ _ _ _ _ _ us hl => match us, hl with | [_, _, _], _ => rfl⟩
  have F9 := fun_mk (st := st__law_parse) l9 c9 k9
  have d__law_parse : DefAt K mg "_law_parse" st__law_parse pl__law_parse := ⟨_, _, F9, PySem.W.mg_of X G a9, F9.binds (ps := pl__law_parse) fun _ _ _ _ _ _ us hl => match us, hl with | [_], _ => rfl⟩
  have F10 := fun_mk (st := st_law) l10 c10 k10
  refine ⟨PySem.W.fnOf "law" "law" (defArgs st_law) (defBody st_law) (defScope st_law) .none kV10 dc10 pm10 an10 cd10 ct10, fun s v => .of_eq rfl, fun base _ _ => ?_⟩
  have pe : PeAt P w K mg base 1 C_ParseError := w_pe (P := P) (w := w) (base := base) FI xf_ParseError.g.g p_o p_no p_i p_t xf_RingError.g.g ⟨p_r, p_g⟩ p_v bI
  have h_in_range := w_in_range (P := P) (w := w) (base := base) d_in_range bi   
  have h_is_table := w_is_table (P := P) (w := w) (base := base) d_is_table bi h_in_range  c_MAX_SIZE
  have h_check_table := w_check_table (P := P) (w := w) (base := base) d_check_table bi h_is_table (xf_InvalidTable.ex (by decide)) 
  have h_text_of := w_text_of (P := P) (w := w) (base := base) d_text_of bi   
  have h_format_table := w_format_table (P := P) (w := w) (base := base) d_format_table bi h_check_table h_text_of  
  have h_parse_table := w_parse_table (P := P) (w := w) (base := base) d_parse_table bi h_is_table  pe 
  have h__law_cell := w__law_cell (P := P) (w := w) (base := base) d__law_cell bi   
  have h__law_row := w__law_row (P := P) (w := w) (base := base) d__law_row bi h__law_cell  
  have h__law_table := w__law_table (P := P) (w := w) (base := base) d__law_table bi h__law_row  
  have h__law_parse := w__law_parse (P := P) (w := w) (base := base) d__law_parse bi h_parse_table  (xt.sub (by decide +kernel)) pno 
  exact lw_of (w_law (P := P) (w := w) (base := base) F10 bi h__law_parse h__law_row h__law_table h_format_table  )
end Lw
open PySem PySem.W PyProof.Rows
set_option maxHeartbeats 0 in
theorem PySem.Challenge.cw_ringfreetables_k11_text_holds : PySem.Challenge.rw_ringfreetables_k11_text.Holds := by
  w_on; o_law; k_head; (case hw => w_witness2)
  k_fill
  refine L2.walk_of (l := PySem.Challenge.rw_ringfreetables_k11_text) (n := 63) (k := 5) (x := "script") (CX := fun w => L2.CX (PySem.W.OpenLaw.prog PySem.Challenge.rw_ringfreetables_k11_text) w) (sp := fun w => Rf.spLw _ Lw.F_law_k11) rfl (by decide) rfl ⟨rfl, by decide, by decide⟩ (fun w h Y => PySem.W.kIn_of Y) ?F (fun _ _ a ns hl _ hS => Rf.sp_end hS (Lw.law11 ns)) (fun _ _ _ _ _ => Rf.cx_end)
  case F =>
    intro w mg fa h KX G hmg
    refine' Lw.all_mk KX G hmg ?a0 ?l0 ?c0 ?k0 ?a1 ?l1 ?c1 ?k1 ?a2 ?l2 ?c2 ?k2 ?a3 ?l3 ?c3 ?k3 ?a4 ?l4 ?c4 ?k4 ?a5 ?l5 ?c5 ?k5 ?a6 ?l6 ?c6 ?k6 ?a7 ?l7 ?c7 ?k7 ?a8 ?l8 ?c8 ?k8 ?a9 ?l9 ?c9 ?k9 ?a10 ?l10 ?c10 ?k10 ?xf_ParseError ?xf_RingError ?xf_InvalidTable ?s_ParseError_ParseError ?s_ParseError_RingError ?s_ParseError_InvalidTable ?s_RingError_ParseError ?s_RingError_RingError ?s_RingError_InvalidTable ?s_InvalidTable_ParseError ?s_InvalidTable_RingError ?s_InvalidTable_InvalidTable ?p_o ?p_no ?p_i ?p_t ?p_l ?p_c ?p_k (mcR := .type "type") ?p_r ?p_g ?p_v ?m_MAX_SIZE ?z_len ?z_range ?z_list ?z_tuple ?z_sorted ?z_set ?z_sum ?z_min ?z_max ?z_int ?z_str ?z_bool ?z_isinstance ?z_enumerate ?z_zip ?z_ValueError
    (case a0 => k_is); (case l0 => k_is); (case c0 => k_is); (case k0 => k_is); (case a1 => k_is); (case l1 => k_is); (case c1 => k_is); (case k1 => k_is); (case a2 => k_is); (case l2 => k_is); (case c2 => k_is); (case k2 => k_is); (case a3 => k_is); (case l3 => k_is); (case c3 => k_is); (case k3 => k_is); (case a4 => k_is); (case l4 => k_is); (case c4 => k_is); (case k4 => k_is); (case a5 => k_is); (case l5 => k_is); (case c5 => k_is); (case k5 => k_is); (case a6 => k_is); (case l6 => k_is); (case c6 => k_is); (case k6 => k_is); (case a7 => k_is); (case l7 => k_is); (case c7 => k_is); (case k7 => k_is); (case a8 => k_is); (case l8 => k_is); (case c8 => k_is); (case k8 => k_is); (case a9 => k_is); (case l9 => k_is); (case c9 => k_is); (case k9 => k_is); (case a10 => k_is); (case l10 => k_is); (case c10 => k_is); (case k10 => k_is); (case xf_ParseError => exact Rf.xf_mkP KX G (by k_is) (by k_is) (by k_is) (by k_is) (by k_is) (by k_is) (by k_is) (by k_is) (by k_is) (by k_is) (by first | k_is | rfl) rfl); (case xf_RingError => exact Rf.xf_mk KX G (by k_is) (by k_is) (by k_is) (by k_is) (by k_is) (by k_is) (by k_is) (by k_is) (by k_is) (by k_is) (by first | k_is | rfl) (by k_exc) (by k_is)); (case xf_InvalidTable => exact Rf.xf_mk KX G (by k_is) (by k_is) (by k_is) (by k_is) (by k_is) (by k_is) (by k_is) (by k_is) (by k_is) (by k_is) (by first | k_is | rfl) (by k_exc) (by k_is)); (case s_ParseError_ParseError => first | k_is | rfl); (case s_ParseError_RingError => first | k_is | rfl); (case s_ParseError_InvalidTable => first | k_is | rfl); (case s_RingError_ParseError => first | k_is | rfl); (case s_RingError_RingError => first | k_is | rfl); (case s_RingError_InvalidTable => first | k_is | rfl); (case s_InvalidTable_ParseError => first | k_is | rfl); (case s_InvalidTable_RingError => first | k_is | rfl); (case s_InvalidTable_InvalidTable => first | k_is | rfl); (case p_o => exact ⟨⟨_, _, _, _, _, _, _, _, _, _, _, _, _, _, _, by k_is, by first | rfl | decide +kernel⟩, by k_is, by first | k_is | rfl, by k_is, by k_is⟩); (case p_no => first | k_is | rfl | decide +kernel); (case p_i => first | k_is | rfl | decide +kernel); (case p_t => first | k_is | rfl | decide +kernel); (case p_l => first | k_is | rfl | decide +kernel); (case p_c => first | k_is | rfl | decide +kernel); (case p_k => first | k_is | rfl | decide +kernel); (case p_r => first | k_is | rfl | decide +kernel); (case p_g => first | k_is | rfl | decide +kernel); (case p_v => first | k_is | rfl | decide +kernel); (case m_MAX_SIZE => k_is); (case z_len => k_is); (case z_range => k_is); (case z_list => k_is); (case z_tuple => k_is); (case z_sorted => k_is); (case z_set => k_is); (case z_sum => k_is); (case z_min => k_is); (case z_max => k_is); (case z_int => k_is); (case z_str => k_is); (case z_bool => k_is); (case z_isinstance => k_is); (case z_enumerate => k_is); (case z_zip => k_is); (case z_ValueError => k_is)
