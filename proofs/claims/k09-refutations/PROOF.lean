import PyProof.Rows.All
import Wide.All
import OpenK.AllK
import Wide.FinOn
import KE.KStateDown
import HandS.ForMost
import HandS.Exc
import HandS.More
import HandS.WordsExc
import HandS.TryOnly
import HandS.ExcOwn
import HandS.IsInst
import HandS.DictComp
import HandS.TupAny
import HandS.Defaults
import HandS.Flow
import HandS.Head0
import HandS.Head1
import HandS.Head2
import HandS.HeadEnd
import HandS.HeadHook1
import HandS.HeadHook2
import HandS.HeadHook3
import HandS.HeadHook4
import HandS.Wide
import HandS.WideMore
import HandS.Strs
import HandS.SetKeys
import HandS.Zip
import HandS.SortRule
import HandS.Deep
import HandS.Style
import HandS.Small
import HandS.WordsDict
import HandS.RaiseMore
import HandS.Text
import KE.GoesEnum
import KE.KDictZip
import HandS.SortOrd
import HandS.TupLe
import HandS.TryMany
import KE.SortCalls
import PySem.Challenge.RW_pathstrue_k09_refutations_called_over_th
set_option Elab.async false
set_option linter.all false
set_option maxRecDepth 100000
set_option maxHeartbeats 0
namespace Dq
open PySem PySem.Spec PyProof.Rows L2

/-! ### data, values, objects -/
/-- immutable data -/
inductive D where
  | non | bl (b : Bool) | int (i : Int) | str (x : Str) | tup (xs : List D)
/-- a value: data; an object by its number; a tuple that holds such; a list that nobody changes -/
inductive Val where
  | d (x : D) | r (n : Nat) | t (xs : List Val) | fz (xs : List D)
inductive O where
  | lst (vs : List Val) | dic (kvs : List (Key × Val)) | ins (C : Str) (fs : List (Str × Val))
abbrev Hh := List O
abbrev Env := List (Option Val)
inductive R (α : Type) where
  | ok (a : α) (h : Hh) | exc (c : Str) (h : Hh) | bad

/-! ### how they stand in the heap -/
section
variable (K : PySem.W.Frag) (mp : List Addr) (H : Hp)
mutual
inductive RD : D → V → Prop
  | non : RD .non .non
  | bl (b : Bool) : RD (.bl b) (.bl b)
  | int (i : Int) : RD (.int i) (.int i)
  | str (x : Str) : RD (.str x) (.str x)
  | tup {a : Addr} {xs : List V} {ds : List D} : SqT K H a xs → RDs ds xs → RD (.tup ds) (.ref a)
inductive RDs : List D → List V → Prop
  | nil : RDs [] []
  | cons {d : D} {v : V} {ds : List D} {vs : List V} : RD d v → RDs ds vs → RDs (d :: ds) (v :: vs)
end
/-- a list that stays -/
def Fz (a : Addr) (xs : List V) : Prop := (Rd H a (.lst xs) ∧ a ∉ mp) ∨ ∃ ob us m, K.lookup a = some ob ∧ ob.cls = .type "list" ∧ ob.dict = none ∧ ob.data = .seq us m ∧ us.size ≤ sizeLine ∧ Vals xs us.toList
mutual
inductive RVal : Val → V → Prop
  | d {x : D} {v : V} : RD K H x v → RVal (.d x) v
  | r {n : Nat} {a : Addr} : mp[n]? = some a → RVal (.r n) (.ref a)
  | t {a : Addr} {xs : List V} {vs : List Val} : SqT K H a xs → RVals vs xs → RVal (.t vs) (.ref a)
  | fz {a : Addr} {xs : List V} {ds : List D} : Fz K mp H a xs → RDs K H ds xs → RVal (.fz ds) (.ref a)
inductive RVals : List Val → List V → Prop
  | nil : RVals [] []
  | cons {d : Val} {v : V} {ds : List Val} {vs : List V} : RVal d v → RVals ds vs → RVals (d :: ds) (v :: vs)
end
def RKv {κ : Type} : List (κ × Val) → List (κ × V) → Prop := Paired fun p q => p.1 = q.1 ∧ RVal K mp H p.2 q.2
def RO : O → Addr → Prop
  | .lst vs, a => ∃ xs, H a = some (.lst xs) ∧ RVals K mp H vs xs
  | .dic kvs, a => ∃ ks, H a = some (.dK ks) ∧ RKv K mp H kvs ks
  | .ins C fs, a => ∃ dx gs, H a = some (.ins (He.ga K C) dx gs) ∧ RKv K mp H fs gs
structure HRel (h : Hh) : Prop where
  len : mp.length = h.length
  nd : mp.Nodup
  at_ : ∀ (n : Nat) (o : O), h[n]? = some o → ∃ a, mp[n]? = some a ∧ RO K mp H o a
def ERel (ρ : Env) (σ : L2.St) : Prop := ρ.length = σ.length ∧ ∀ (i : Nat) (v : Val), ρ[i]? = some (some v) → ∃ x, σ[i]? = some (some x) ∧ RVal K mp H v x
structure Ext (mp' : List Addr) (H' : Hp) : Prop where
  pre : mp <+: mp'
  keep : ∀ a o, H a = some o → a ∉ mp → H' a = some o ∧ a ∉ mp'
  tup : ∀ a xs, SqT K H a xs → SqT K H' a xs
end

section
variable {K : PySem.W.Frag} {mp mp1 mp' : List Addr} {H H1 H' : Hp} {h h' : Hh}
theorem Ext.refl : Ext K mp H mp H := ⟨List.prefix_refl _, fun a o e n => ⟨e, n⟩, fun _ _ x => x⟩
theorem Ext.trans (a : Ext K mp H mp1 H1) (b : Ext K mp1 H1 mp' H') : Ext K mp H mp' H' :=
  ⟨a.pre.trans b.pre, fun c o e n => let ⟨e1, n1⟩ := a.keep c o e n; b.keep c o e1 n1, fun c xs x => b.tup c xs (a.tup c xs x)⟩
mutual
theorem RD.mono (t : ∀ a xs, SqT K H a xs → SqT K H' a xs) : ∀ {d : D} {v : V}, RD K H d v → RD K H' d v
  | _, _, .non => .non
  | _, _, .bl b => .bl b
  | _, _, .int i => .int i
  | _, _, .str x => .str x
  | _, _, .tup s r => .tup (t _ _ s) (RDs.mono t r)
theorem RDs.mono (t : ∀ a xs, SqT K H a xs → SqT K H' a xs) : ∀ {ds : List D} {vs : List V}, RDs K H ds vs → RDs K H' ds vs
  | _, _, .nil => .nil
  | _, _, .cons a b => .cons (RD.mono t a) (RDs.mono t b)
end
theorem Fz.mono (e : Ext K mp H mp' H') {a : Addr} {xs : List V} (f : Fz K mp H a xs) : Fz K mp' H' a xs := by
  rcases f with ⟨r, n⟩ | f
  · refine .inl ?_
    rcases r with r | ⟨o, r⟩
    · obtain ⟨e1, n1⟩ := e.keep a _ r n
      exact ⟨.inl e1, n1⟩
    · obtain ⟨e1, n1⟩ := e.keep a _ r n
      exact ⟨.inr ⟨o, e1⟩, n1⟩
  · exact .inr f
theorem Fz.sq {a : Addr} {xs : List V} (f : Fz K mp H a xs) : SqL K H a xs := by
  rcases f with ⟨r, _⟩ | f
  · exact .inl r
  · exact .inr f
theorem pre_get {α : Type} {l l' : List α} {n : Nat} {a : α} (p : l <+: l') (e : l[n]? = some a) : l'[n]? = some a := by
  obtain ⟨t, rfl⟩ := p
  rw [List.getElem?_append_left (List.getElem?_eq_some_iff.mp e).1]
  exact e
mutual
theorem RVal.mono (e : Ext K mp H mp' H') : ∀ {d : Val} {v : V}, RVal K mp H d v → RVal K mp' H' d v
  | _, _, .d x => .d (RD.mono e.tup x)
  | _, _, .r x => .r (pre_get e.pre x)
  | _, _, .t s r => .t (e.tup _ _ s) (RVals.mono e r)
  | _, _, .fz s r => .fz (s.mono e) (RDs.mono e.tup r)
theorem RVals.mono (e : Ext K mp H mp' H') : ∀ {ds : List Val} {vs : List V}, RVals K mp H ds vs → RVals K mp' H' ds vs
  | _, _, .nil => .nil
  | _, _, .cons a b => .cons (RVal.mono e a) (RVals.mono e b)
end
theorem RKv.mono {κ : Type} (e : Ext K mp H mp' H') {a : List (κ × Val)} {b : List (κ × V)} (r : RKv K mp H a b) : RKv K mp' H' a b :=
  Paired.mapP r fun _ _ z => ⟨z.1, z.2.mono e⟩
theorem ERel.mono (e : Ext K mp H mp' H') {ρ : Env} {σ : L2.St} (r : ERel K mp H ρ σ) : ERel K mp' H' ρ σ :=
  ⟨r.1, fun i v x => let ⟨y, e1, q⟩ := r.2 i v x; ⟨y, e1, q.mono e⟩⟩
theorem ERel.set {ρ : Env} {σ : L2.St} (r : ERel K mp H ρ σ) {v : Val} {x : V} (q : RVal K mp H v x) (i : Nat) : ERel K mp H (ρ.set i (some v)) (σ.set i (some x)) := by
  refine ⟨by rw [List.length_set, List.length_set]; exact r.1, fun j w e => ?_⟩
  by_cases hj : i = j
  · subst hj
    by_cases hl : i < ρ.length
    · rw [List.getElem?_set_self hl] at e
      have e2 := Option.some.inj (Option.some.inj e)
      subst e2
      exact ⟨x, List.getElem?_set_self (by rw [← r.1]; exact hl), q⟩
    · rw [List.getElem?_eq_none (by rw [List.length_set]; omega)] at e
      cases e
  · rw [List.getElem?_set_ne hj] at e
    obtain ⟨y, e1, q1⟩ := r.2 j w e
    exact ⟨y, by rw [List.getElem?_set_ne hj]; exact e1, q1⟩
theorem RVals.length {ds : List Val} {vs : List V} (r : RVals K mp H ds vs) : ds.length = vs.length := by
  induction ds generalizing vs with
  | nil => cases r; rfl
  | cons d ds ih => cases r with | cons a b => rw [List.length_cons, List.length_cons, ih b]
theorem RDs.length {ds : List D} {vs : List V} (r : RDs K H ds vs) : ds.length = vs.length := by
  induction ds generalizing vs with
  | nil => cases r; rfl
  | cons d ds ih => cases r with | cons a b => rw [List.length_cons, List.length_cons, ih b]
theorem RDs.vals : ∀ {ds : List D} {vs : List V}, RDs K H ds vs → RVals K mp H (ds.map .d) vs
  | [], _, .nil => .nil
  | _ :: _, _, .cons a b => .cons (.d a) (RDs.vals b)
theorem RVals.data : ∀ {ds : List D} {vs : List V}, RVals K mp H (ds.map .d) vs → RDs K H ds vs
  | [], _, .nil => .nil
  | _ :: _, _, .cons (.d a) b => .cons a (RVals.data b)
theorem RVals.get : ∀ {ds : List Val} {vs : List V} {i : Nat} {d : Val}, RVals K mp H ds vs → ds[i]? = some d → ∃ v, vs[i]? = some v ∧ RVal K mp H d v
  | [], _, _, _, .nil, e => by simp at e
  | _ :: _, _, 0, _, .cons a _, e => by
    have e' := Option.some.inj e
    subst e'
    exact ⟨_, rfl, a⟩
  | _ :: _, _, i + 1, d, .cons _ b, e => RVals.get (i := i) (d := d) b e
theorem RVals.append : ∀ {ds es : List Val} {vs ws : List V}, RVals K mp H ds vs → RVals K mp H es ws → RVals K mp H (ds ++ es) (vs ++ ws)
  | [], _, _, _, .nil, q => q
  | _ :: _, _, _, _, .cons a b, q => .cons a (RVals.append b q)
theorem RVals.take : ∀ {ds : List Val} {vs : List V} (n : Nat), RVals K mp H ds vs → RVals K mp H (ds.take n) (vs.take n)
  | [], _, n, .nil => by rw [List.take_nil, List.take_nil]; exact .nil
  | _ :: _, _, 0, .cons _ _ => .nil
  | _ :: _, _, n + 1, .cons a b => .cons a (RVals.take n b)
theorem RVals.drop : ∀ {ds : List Val} {vs : List V} (n : Nat), RVals K mp H ds vs → RVals K mp H (ds.drop n) (vs.drop n)
  | [], _, n, .nil => by rw [List.drop_nil, List.drop_nil]; exact .nil
  | _ :: _, _, 0, .cons a b => .cons a b
  | _ :: _, _, n + 1, .cons a b => RVals.drop n b
theorem RVals.set {d : Val} {v : V} (q : RVal K mp H d v) : ∀ {ds : List Val} {vs : List V} (n : Nat), RVals K mp H ds vs → RVals K mp H (ds.set n d) (vs.set n v)
  | [], _, n, .nil => .nil
  | _ :: _, _, 0, .cons _ b => .cons q b
  | _ :: _, _, n + 1, .cons a b => .cons a (RVals.set q n b)

/-! ### the heap's steps -/
theorem RO.mapped {o : O} {a : Addr} (r : RO K mp H o a) : ∃ u, H a = some u ∧ Mut (some u) := by
  cases o with
  | lst vs => obtain ⟨xs, e, _⟩ := r; exact ⟨_, e, trivial⟩
  | dic kvs => obtain ⟨xs, e, _⟩ := r; exact ⟨_, e, trivial⟩
  | ins C fs => obtain ⟨dx, gs, e, _⟩ := r; exact ⟨_, e, trivial⟩
theorem HRel.mem (R : HRel K mp H h) {a : Addr} (m : a ∈ mp) : ∃ (n : Nat) (o : O), h[n]? = some o ∧ mp[n]? = some a ∧ RO K mp H o a := by
  obtain ⟨n, hn, e⟩ := List.mem_iff_getElem.mp m
  have hn' : n < h.length := by rw [← R.len]; exact hn
  obtain ⟨b, e1, q⟩ := R.at_ n h[n] (List.getElem?_eq_getElem hn')
  rw [List.getElem?_eq_getElem hn, e] at e1
  have e2 := Option.some.inj e1
  subst e2
  exact ⟨n, h[n], List.getElem?_eq_getElem hn', by rw [List.getElem?_eq_getElem hn, e], q⟩
theorem RO.mono (e : Ext K mp H mp' H') {o : O} {a : Addr} (k : ∀ u, H a = some u → H' a = some u) (r : RO K mp H o a) : RO K mp' H' o a := by
  cases o with
  | lst vs => obtain ⟨xs, q, z⟩ := r; exact ⟨xs, k _ q, z.mono e⟩
  | dic kvs => obtain ⟨xs, q, z⟩ := r; exact ⟨xs, k _ q, z.mono e⟩
  | ins C fs => obtain ⟨dx, gs, q, z⟩ := r; exact ⟨dx, gs, k _ q, z.mono e⟩
theorem ext_upd_new {p : Addr} {u : HO} (n : H p = none) : Ext K mp H mp (upd H p u) := by
  refine ⟨List.prefix_refl _, fun a o e m => ⟨by rw [upd_ne (ne_of_none e n)]; exact e, m⟩, fun a xs x => ?_⟩
  rcases x with x | x
  · refine .inl ?_
    rcases x with x | ⟨o, x⟩
    · exact .inl (by rw [upd_ne (ne_of_none x n)]; exact x)
    · exact .inr ⟨o, by rw [upd_ne (ne_of_none x n)]; exact x⟩
  · exact .inr x
/-- a new thing that no number is given -/
theorem HRel.new (R : HRel K mp H h) {p : Addr} (u : HO) (n : H p = none) : HRel K mp (upd H p u) h ∧ Ext K mp H mp (upd H p u) := by
  have e := ext_upd_new (K := K) (mp := mp) (u := u) n
  refine ⟨⟨R.len, R.nd, fun m o hm => ?_⟩, e⟩
  obtain ⟨a, ea, q⟩ := R.at_ m o hm
  exact ⟨a, ea, q.mono e fun u' hu => by rw [upd_ne (ne_of_none hu n)]; exact hu⟩
theorem ext_num {p : Addr} {u : HO} (n : H p = none) : Ext K mp H (mp ++ [p]) (upd H p u) := by
  have e := ext_upd_new (K := K) (mp := mp) (u := u) n
  refine ⟨List.prefix_append _ _, fun a o q m => ?_, e.tup⟩
  obtain ⟨q1, q2⟩ := e.keep a o q m
  refine ⟨q1, fun z => ?_⟩
  rcases List.mem_append.mp z with z | z
  · exact m z
  · have z' := List.mem_singleton.mp z
    rw [z', n] at q
    cases q
theorem nodup_get {α : Type} {l : List α} (nd : l.Nodup) {i j : Nat} {a : α} (e1 : l[i]? = some a) (e2 : l[j]? = some a) : i = j := by
  obtain ⟨h1, e1⟩ := List.getElem?_eq_some_iff.mp e1
  obtain ⟨h2, e2⟩ := List.getElem?_eq_some_iff.mp e2
  exact (List.getElem_inj nd).mp (e1.trans e2.symm)
/-- a new numbered thing -/
theorem HRel.alloc (R : HRel K mp H h) {p : Addr} {u : HO} {o : O} (n : H p = none) (ho : RO K (mp ++ [p]) (upd H p u) o p) : HRel K (mp ++ [p]) (upd H p u) (h ++ [o]) ∧ Ext K mp H (mp ++ [p]) (upd H p u) := by
  have e := ext_num (K := K) (mp := mp) (u := u) n
  have np : p ∉ mp := fun m => by
    obtain ⟨_, _, _, _, q⟩ := R.mem m
    obtain ⟨u', hu, _⟩ := q.mapped
    rw [n] at hu
    cases hu
  refine ⟨⟨by simp [R.len], List.nodup_append.mpr ⟨R.nd, by simp, fun a ha b hb z => np (by rw [List.mem_singleton.mp hb] at z; rw [← z]; exact ha)⟩, fun m q hm => ?_⟩, e⟩
  by_cases hl : m < h.length
  · rw [List.getElem?_append_left hl] at hm
    obtain ⟨a, ea, q1⟩ := R.at_ m q hm
    exact ⟨a, pre_get (List.prefix_append _ _) ea, q1.mono e fun u' hu => by rw [upd_ne (ne_of_none hu n)]; exact hu⟩
  · rw [List.getElem?_append_right (by omega)] at hm
    have z : m - h.length = 0 := by
      cases hz : m - h.length with
      | zero => rfl
      | succ k => rw [hz] at hm; simp at hm
    rw [z] at hm
    have hq : o = q := by simpa using hm
    subst hq
    have hm2 : m = mp.length := by rw [R.len]; omega
    subst hm2
    exact ⟨p, by simp, ho⟩
/-- a numbered thing is written -/
theorem HRel.write (R : HRel K mp H h) {n : Nat} {a : Addr} {u : HO} {o : O} (hn : mp[n]? = some a) (ho : RO K mp (upd H a u) o a) : HRel K mp (upd H a u) (h.set n o) ∧ Ext K mp H mp (upd H a u) := by
  have hl : n < h.length := by rw [← R.len]; exact (List.getElem?_eq_some_iff.mp hn).1
  obtain ⟨b, eb, q0⟩ := R.at_ n h[n] (List.getElem?_eq_getElem hl)
  have eab : a = b := Option.some.inj (hn.symm.trans eb)
  subst eab
  obtain ⟨u0, hu0, mu0⟩ := q0.mapped
  have e : Ext K mp H mp (upd H a u) := by
    refine ⟨List.prefix_refl _, fun c o' q m => ⟨?_, m⟩, fun c xs x => ?_⟩
    · have : c ≠ a := fun z => m (by rw [z]; exact List.mem_of_getElem? hn)
      rw [upd_ne this]; exact q
    · rcases x with x | x
      · refine .inl ?_
        rcases x with x | ⟨ob, x⟩
        · refine .inl ?_
          have : c ≠ a := fun z => by
            rw [z, hu0] at x
            have x' := Option.some.inj x
            subst x'
            exact mu0
          rw [upd_ne this]; exact x
        · refine .inr ⟨ob, ?_⟩
          have : c ≠ a := fun z => by
            rw [z, hu0] at x
            have x' := Option.some.inj x
            subst x'
            exact mu0
          rw [upd_ne this]; exact x
      · exact .inr x
  refine ⟨⟨by rw [List.length_set]; exact R.len, R.nd, fun m q hm => ?_⟩, e⟩
  by_cases hmn : n = m
  · subst hmn
    rw [List.getElem?_set_self hl] at hm
    have hq := Option.some.inj hm
    subst hq
    exact ⟨a, hn, ho⟩
  · rw [List.getElem?_set_ne hmn] at hm
    obtain ⟨b, eb, q1⟩ := R.at_ m q hm
    refine ⟨b, eb, q1.mono e fun u' hu => ?_⟩
    have : b ≠ a := fun z => hmn (nodup_get R.nd hn (by rw [← z]; exact eb))
    rw [upd_ne this]; exact hu
theorem HRel.obj (R : HRel K mp H h) {n : Nat} {a : Addr} {o : O} (hn : mp[n]? = some a) (e : h[n]? = some o) : RO K mp H o a := by
  obtain ⟨b, eb, q⟩ := R.at_ n o e
  have z := Option.some.inj (hn.symm.trans eb)
  subst z
  exact q

/-! ### letting go of what nobody holds -/
mutual
/-- all numbers in it are less than n -/
def Val.bel (n : Nat) : Val → Bool
  | .d _ => true
  | .r m => decide (m < n)
  | .t vs => belAll n vs
  | .fz _ => true
def belAll (n : Nat) : List Val → Bool
  | [] => true
  | v :: vs => v.bel n && belAll n vs
end
def O.bel (n : Nat) : O → Bool
  | .lst vs => belAll n vs
  | .dic kvs => belAll n (kvs.map (·.2))
  | .ins _ fs => belAll n (fs.map (·.2))
section
variable {K : PySem.W.Frag} {mp mp1 mp' : List Addr} {H H1 H' : Hp} {h h' : Hh}
mutual
theorem RVal.shrink {n : Nat} {q : List Addr} (hq : ∀ m a, m < n → mp'[m]? = some a → q[m]? = some a) (hf : ∀ a, a ∈ q → a ∈ mp') : ∀ (d : Val) {v : V}, d.bel n = true → RVal K mp' H d v → RVal K q H d v
  | .d _, _, _, .d x => .d x
  | .r m, _, b, .r x => .r (hq m _ (by simpa [Val.bel] using b) x)
  | .t vs, _, b, .t s r => .t s (RVals.shrink hq hf vs (by simpa [Val.bel] using b) r)
  | .fz _, _, _, .fz s r => .fz (by
      rcases s with ⟨s, m⟩ | s
      · exact .inl ⟨s, fun z => m (hf _ z)⟩
      · exact .inr s) r
theorem RVals.shrink {n : Nat} {q : List Addr} (hq : ∀ m a, m < n → mp'[m]? = some a → q[m]? = some a) (hf : ∀ a, a ∈ q → a ∈ mp') : ∀ (ds : List Val) {vs : List V}, belAll n ds = true → RVals K mp' H ds vs → RVals K q H ds vs
  | [], _, _, .nil => .nil
  | d :: ds, _, b, .cons x y => by
    simp only [belAll, Bool.and_eq_true] at b
    exact .cons (RVal.shrink hq hf d b.1 x) (RVals.shrink hq hf ds b.2 y)
end
theorem RKv.shrink {κ : Type} {n : Nat} {q : List Addr} (hq : ∀ m a, m < n → mp'[m]? = some a → q[m]? = some a) (hf : ∀ a, a ∈ q → a ∈ mp') : ∀ {a : List (κ × Val)} {b : List (κ × V)}, belAll n (a.map (·.2)) = true → RKv K mp' H a b → RKv K q H a b
  | [], _, _, .nil => .nil
  | _ :: _, _, b, .cons x y => by
    simp only [List.map_cons, belAll, Bool.and_eq_true] at b
    exact .cons ⟨x.1, x.2.shrink hq hf _ b.1⟩ (RKv.shrink hq hf b.2 y)
theorem RO.shrink {n : Nat} {q : List Addr} (hq : ∀ m a, m < n → mp'[m]? = some a → q[m]? = some a) (hf : ∀ a, a ∈ q → a ∈ mp') {o : O} {a : Addr} (b : o.bel n = true) (r : RO K mp' H o a) : RO K q H o a := by
  cases o with
  | lst vs => obtain ⟨xs, e, z⟩ := r; exact ⟨xs, e, z.shrink hq hf _ b⟩
  | dic kvs => obtain ⟨xs, e, z⟩ := r; exact ⟨xs, e, z.shrink hq hf b⟩
  | ins C fs => obtain ⟨dx, gs, e, z⟩ := r; exact ⟨dx, gs, e, z.shrink hq hf b⟩
end
mutual
theorem RVal.bel : ∀ {d : Val} {v : V}, RVal K mp H d v → d.bel mp.length = true
  | _, _, .d _ => rfl
  | _, _, .r x => by simp only [Val.bel, decide_eq_true_eq]; exact (List.getElem?_eq_some_iff.mp x).1
  | _, _, .t _ r => by simp only [Val.bel]; exact RVals.bel r
  | _, _, .fz _ _ => rfl
theorem RVals.bel : ∀ {ds : List Val} {vs : List V}, RVals K mp H ds vs → belAll mp.length ds = true
  | _, _, .nil => rfl
  | _, _, .cons x y => by simp only [belAll, Bool.and_eq_true]; exact ⟨RVal.bel x, RVals.bel y⟩
end
theorem RKv.bel {κ : Type} : ∀ {a : List (κ × Val)} {b : List (κ × V)}, RKv K mp H a b → belAll mp.length (a.map (·.2)) = true
  | [], _, .nil => rfl
  | _ :: _, _, .cons x y => by simp only [List.map_cons, belAll, Bool.and_eq_true]; exact ⟨x.2.bel, RKv.bel y⟩
theorem RO.bel {o : O} {a : Addr} (r : RO K mp H o a) : o.bel mp.length = true := by
  cases o with
  | lst vs => obtain ⟨xs, e, z⟩ := r; exact z.bel
  | dic kvs => obtain ⟨xs, e, z⟩ := r; exact z.bel
  | ins C fs => obtain ⟨dx, gs, e, z⟩ := r; exact z.bel
/-- back to the numbers that there were, behind an evaluation that left the old ones as they were -/
theorem HRel.back (R0 : HRel K mp H h) (e : Ext K mp H mp' H') (R : HRel K mp' H' h') (ht : h'.take h.length = h) : HRel K mp H' h ∧ Ext K mp H mp H' := by
  have hq : ∀ m a, m < mp.length → mp'[m]? = some a → mp[m]? = some a := fun m a hm ha => by
    obtain ⟨t, rfl⟩ := e.pre
    rwa [List.getElem?_append_left hm] at ha
  have hf : ∀ a, a ∈ mp → a ∈ mp' := fun a ha => by
    obtain ⟨t, rfl⟩ := e.pre
    exact List.mem_append_left _ ha
  refine ⟨⟨R0.len, R0.nd, fun n o hn => ?_⟩, ⟨List.prefix_refl _, fun a o q m => ⟨(e.keep a o q m).1, m⟩, e.tup⟩⟩
  obtain ⟨a, ea, q0⟩ := R0.at_ n o hn
  have hn' : h'[n]? = some o := by
    have hl : n < h.length := (List.getElem?_eq_some_iff.mp hn).1
    rw [← ht, List.getElem?_take_of_lt hl] at hn
    exact hn
  exact ⟨a, ea, (R.obj (pre_get e.pre ea) hn').shrink hq hf q0.bel⟩
open Classical in
/-- what an evaluation from h on leaves, without what nobody holds -/
noncomputable def gc (h : Hh) : R Val → R Val
  | .ok v h' =>
    if h'.take h.length = h then
      (if v.bel h.length = true then .ok v h else match v with
        | .r n => (match h'[n]? with
          | some o => if o.bel h.length = true then .ok (.r h.length) (h ++ [o]) else .ok v h'
          | none => .ok v h')
        | v => .ok v h')
    else .ok v h'
  | r => r
end
end Dq
namespace Dq
open PySem PySem.Spec PyProof.Rows L2

section
variable (K : PySem.W.Frag)
/-- what a result r, come to from mp and H, asks of what follows -/
def Res {α β : Type} (rel : List Addr → Hp → α → β → Prop) (W : WX) (σ : L2.St) (mp : List Addr) (H : Hp) (r : R α) (Q : β → Hp → Prop) : Prop :=
  match r with
  | .ok v h' => ∀ mp' y H', HRel K mp' H' h' → Ext K mp H mp' H' → rel mp' H' v y → Q y H'
  | .exc c h' => ∀ d mp' H', HRel K mp' H' h' → Ext K mp H mp' H' → W (.ref (He.ga K c)) d σ H'
  | .bad => False
def Lft {α β : Type} (rel : List Addr → Hp → α → β → Prop) (W : WX) (m : Env → Hh → R α) : L2.St → Hp → (β → Hp → Prop) → Prop :=
  fun σ H Q => ∃ mp ρ h, HRel K mp H h ∧ ERel K mp H ρ σ ∧ Res K rel W σ mp H (m ρ h) Q
abbrev rV : List Addr → Hp → Val → V → Prop := RVal K
abbrev rVs : List Addr → Hp → List Val → List V → Prop := RVals K
abbrev rB : List Addr → Hp → Bool → Bool → Prop := fun _ _ b c => c = b
end
/-- statements' ends -/
inductive RS where
  | nx (ρ : Env) (h : Hh) | rt (v : Val) (h : Hh) | bk (ρ : Env) (h : Hh) | ct (ρ : Env) (h : Hh) | exc (c : Str) (ρ : Env) (h : Hh) | bad
section
variable (K : PySem.W.Frag)
def ResS (W : WX) (mp : List Addr) (H : Hp) (r : RS) (D : Ends) : Prop :=
  match r with
  | .nx ρ' h' => ∀ mp' σ' H', HRel K mp' H' h' → Ext K mp H mp' H' → ERel K mp' H' ρ' σ' → D.nx σ' H'
  | .rt v h' => ∀ mp' y H', HRel K mp' H' h' → Ext K mp H mp' H' → RVal K mp' H' v y → D.rt y H'
  | .bk ρ' h' => ∀ mp' σ' H', HRel K mp' H' h' → Ext K mp H mp' H' → ERel K mp' H' ρ' σ' → D.bk σ' H'
  | .ct ρ' h' => ∀ mp' σ' H', HRel K mp' H' h' → Ext K mp H mp' H' → ERel K mp' H' ρ' σ' → D.ct σ' H'
  | .exc c ρ' h' => ∀ d mp' σ' H', HRel K mp' H' h' → Ext K mp H mp' H' → ERel K mp' H' ρ' σ' → W (.ref (He.ga K c)) d σ' H'
  | .bad => False
def LftS (W : WX) (m : Env → Hh → RS) : TS := fun D σ H => ∃ mp ρ h, HRel K mp H h ∧ ERel K mp H ρ σ ∧ ResS K W mp H (m ρ h) D
end
def bnd {α β : Type} (m : Env → Hh → R α) (k : α → Env → Hh → R β) : Env → Hh → R β := fun ρ h => match m ρ h with
  | .ok v h' => k v ρ h'
  | .exc c h' => .exc c h'
  | .bad => .bad
section
variable {K : PySem.W.Frag} {mp mp1 mp' : List Addr} {H H1 H' : Hp} {h h' : Hh} {W : WX} {σ : L2.St}
theorem Res.shift {α β : Type} {rel : List Addr → Hp → α → β → Prop} {r : R α} {Q : β → Hp → Prop} (e : Ext K mp H mp1 H1) (x : Res K rel W σ mp H r Q) : Res K rel W σ mp1 H1 r Q := by
  cases r with
  | ok v h' => exact fun mp' y H' R E q => x mp' y H' R (e.trans E) q
  | exc c h' => exact fun d mp' H' R E => x d mp' H' R (e.trans E)
  | bad => exact x
theorem ResS.shift {r : RS} {D : Ends} (e : Ext K mp H mp1 H1) (x : ResS K W mp H r D) : ResS K W mp1 H1 r D := by
  cases r with
  | nx ρ h' => exact fun mp' y H' R E q => x mp' y H' R (e.trans E) q
  | rt ρ h' => exact fun mp' y H' R E q => x mp' y H' R (e.trans E) q
  | bk ρ h' => exact fun mp' y H' R E q => x mp' y H' R (e.trans E) q
  | ct ρ h' => exact fun mp' y H' R E q => x mp' y H' R (e.trans E) q
  | exc c ρ h' => exact fun d mp' y H' R E q => x d mp' y H' R (e.trans E) q
  | bad => exact x
theorem Res.mono {α β : Type} {rel : List Addr → Hp → α → β → Prop} {r : R α} {Q Q' : β → Hp → Prop} (x : Res K rel W σ mp H r Q) (k : ∀ y H', Q y H' → Q' y H') : Res K rel W σ mp H r Q' := by
  cases r with
  | ok v h' => exact fun mp' y H' R E q => k _ _ (x mp' y H' R E q)
  | exc c h' => exact x
  | bad => exact x
/-- one behind another -/
theorem res_bnd {α β γ δ : Type} {rel : List Addr → Hp → α → γ → Prop} {rel2 : List Addr → Hp → β → δ → Prop} {m : Env → Hh → R α} {k : α → Env → Hh → R β} {ρ : Env} {Q : δ → Hp → Prop} {Q1 : γ → Hp → Prop}
    (R0 : HRel K mp H h) (E : ERel K mp H ρ σ) (q : Res K rel2 W σ mp H (bnd m k ρ h) Q)
    (hk : ∀ v y mp1 h1 H1, Ext K mp H mp1 H1 → HRel K mp1 H1 h1 → ERel K mp1 H1 ρ σ → rel mp1 H1 v y → Res K rel2 W σ mp1 H1 (k v ρ h1) Q → Q1 y H1) : Lft K rel W m σ H Q1 := by
  refine ⟨mp, ρ, h, R0, E, ?_⟩
  unfold bnd at q
  cases e : m ρ h with
  | ok v h' =>
    rw [e] at q
    exact fun mp' y H' R' E' r => hk v y mp' h' H' E' R' (E.mono E') r (q.shift E')
  | exc c h' =>
    rw [e] at q
    exact q
  | bad =>
    rw [e] at q
    exact q
/-- what nobody holds is let go of -/
theorem Res.gc {r : R Val} {Q : V → Hp → Prop} (R0 : HRel K mp H h) (x : Res K (rV K) W σ mp H (gc h r) Q) : Res K (rV K) W σ mp H r Q := by
  cases r with
  | exc c h' => exact x
  | bad => exact x
  | ok v h' =>
    intro mp' y H' R E q
    unfold Dq.gc at x
    by_cases ht : h'.take h.length = h
    · obtain ⟨Rb, Eb⟩ := R0.back E R ht
      have hq : ∀ m a, m < h.length → mp'[m]? = some a → mp[m]? = some a := fun m a hm ha => by
        obtain ⟨t, rfl⟩ := E.pre
        rwa [List.getElem?_append_left (by rw [R0.len]; exact hm)] at ha
      have hf : ∀ a, a ∈ mp → a ∈ mp' := fun a ha => by
        obtain ⟨t, rfl⟩ := E.pre
        exact List.mem_append_left _ ha
      simp only [if_pos ht] at x
      by_cases hb : v.bel h.length = true
      · simp only [if_pos hb] at x
        exact x mp y H' Rb Eb (q.shrink hq hf v hb)
      · simp only [if_neg hb] at x
        cases v with
        | d z => exact absurd rfl hb
        | fz z => exact absurd rfl hb
        | t z => exact x mp' y H' R E q
        | r n =>
          cases hn : h'[n]? with
          | none =>
            simp only [hn] at x
            exact x mp' y H' R E q
          | some o =>
            simp only [hn] at x
            by_cases ho : o.bel h.length = true
            · simp only [if_pos ho] at x
              cases q with
              | r hn' =>
                rename_i a
                have ho' := R.obj hn' hn
                have hnl : ¬ n < h.length := fun z => hb (by simp only [Val.bel, decide_eq_true_eq]; exact z)
                have hna : a ∉ mp := fun m => by
                  obtain ⟨i, hi, e⟩ := List.mem_iff_getElem.mp m
                  have e2 : mp'[i]? = some a := pre_get E.pre (by rw [List.getElem?_eq_getElem hi, e])
                  have := nodup_get R.nd hn' e2
                  rw [R0.len] at hi
                  omega
                have hq2 : ∀ m b, m < h.length → mp'[m]? = some b → (mp ++ [a])[m]? = some b := fun m b hm hb2 => pre_get (List.prefix_append _ _) (hq m b hm hb2)
                have hf2 : ∀ b, b ∈ mp ++ [a] → b ∈ mp' := fun b hb2 => by
                  rcases List.mem_append.mp hb2 with z | z
                  · exact hf b z
                  · rw [List.mem_singleton.mp z]; exact List.mem_of_getElem? hn'
                refine x (mp ++ [a]) (.ref a) H' ⟨by simp [R0.len], List.nodup_append.mpr ⟨R0.nd, by simp, fun c hc b hb2 z => hna (by rw [List.mem_singleton.mp hb2] at z; rw [← z]; exact hc)⟩, fun m o2 hm => ?_⟩
                  ⟨List.prefix_append _ _, fun c o2 e m => ?_, E.tup⟩ (.r (by rw [← R0.len]; simp))
                · by_cases hl : m < h.length
                  · rw [List.getElem?_append_left hl] at hm
                    obtain ⟨c, hc, _⟩ := R0.at_ m o2 hm
                    have hm' : h'[m]? = some o2 := by
                      rw [← ht, List.getElem?_take_of_lt hl] at hm
                      exact hm
                    have r1 := R.obj (pre_get E.pre hc) hm'
                    obtain ⟨c', hc', r0⟩ := R0.at_ m o2 hm
                    have hb2 := r0.bel
                    rw [R0.len] at hb2
                    exact ⟨c, pre_get (List.prefix_append _ _) hc, r1.shrink hq2 hf2 hb2⟩
                  · rw [List.getElem?_append_right (by omega)] at hm
                    have z : m - h.length = 0 := by
                      cases hz : m - h.length with
                      | zero => rfl
                      | succ k => rw [hz] at hm; simp at hm
                    rw [z] at hm
                    have hq3 : o = o2 := by simpa using hm
                    subst hq3
                    have hm2 : m = mp.length := by rw [R0.len]; omega
                    subst hm2
                    exact ⟨a, by simp, ho'.shrink hq2 hf2 ho⟩
                · obtain ⟨k1, k2⟩ := E.keep c o2 e m
                  exact ⟨k1, fun z => k2 (hf2 c z)⟩
            · simp only [if_neg ho] at x
              exact x mp' y H' R E q
    · simp only [if_neg ht] at x
      exact x mp' y H' R E q
end

/-! ### the module and the context -/
/-- what the text's module holds -/
structure Gm where
  F : Type
  fns : List (Str × F)
  cns : List (Str × D)
  blt : List Str
  mth : List (Str × Str × F)
  ini : List (Str × F)
  exs : List Str
  exm : List (Str × Str × Bool)
  nat : List (Str × Str)
  at_ : F → Str × Option Str
  ps : F → List Str
  tbs : List (Str × List (Str × D)) := []
abbrev Tab (G : Gm) := G.F → List Val → Hh → R Val
structure GOk (G : Gm) (w : World) (K : PySem.W.Frag) (mg : Str → Option Value) : Prop where
  fn : ∀ p ∈ G.fns, mg p.1 = some (.ref (He.fAd K (G.at_ p.2))) ∧ PySem.W.keepIn K (.ref (He.fAd K (G.at_ p.2))) = true
  cn : ∀ p ∈ G.cns, ∃ v u, mg p.1 = some u ∧ RelV v u ∧ ∀ H, RD K H p.2 v
  bl : ∀ x ∈ G.blt, mg x = none
  mt : ∀ p ∈ G.mth, Cls K (He.ga K p.1) ∧ Meth K (He.ga K p.1) p.2.1 (He.fAd K (G.at_ p.2.2))
  ini : ∀ p ∈ G.ini, mg p.1 = some (.ref (He.ga K p.1)) ∧ Mk K (He.ga K p.1) (He.fAd K (G.at_ p.2))
  exs : ∀ c ∈ G.exs, mg c = some (.ref (He.ga K c)) ∧ (He.Fa.exc c).ok K = true
  exm : ∀ p ∈ G.exm, PySem.W.exmOne K (.ref (He.ga K p.1)) (.ref (He.ga K p.2.1)) = some p.2.2
  nat : ∀ p ∈ G.nat, Cls K (He.ga K p.1) ∧ NoAttr K (He.ga K p.1) p.2
  tbs : ∀ p ∈ G.tbs, ∃ a es n, mg p.1 = some (.ref a) ∧ KDict K w a es n ∧ ∀ q ∈ p.2, ∃ v u, PySem.W.nsIn K a q.1 = some (some u) ∧ RelV v u ∧ ∀ H, RD K H q.2 v
/-- a def's promise: what the table says -/
def spD (G : Gm) (K : PySem.W.Frag) (T : Tab G) (f : G.F) : Sp := fun vs H Q E =>
  ∃ mp h args, HRel K mp H h ∧ RVals K mp H args vs ∧ args.length = (G.ps f).length ∧ Res K (rV K) (fun c d _ H => E c d H) [] mp H (T f args h) Q
def TOk (G : Gm) (P : Program) (w : World) (K : PySem.W.Frag) (mg : Str → Option Value) (base : Heap) (k : Nat) (T : Tab G) : Prop :=
  ∀ f : G.F, ∃ fd, FnOk P w K mg base (L2.CX P w) k (He.fAd K (G.at_ f)) fd (G.ps f) (spD G K T f) ∧ Binds K fd (G.ps f) []
/-- a def's names by slots, its scope, the names whose cells are its own; full: a def's body, no block of a comprehension -/
structure Sx where
  N : List Str
  sc : Scope
  fb : Str → Bool
  full : Bool
structure Ctx (G : Gm) (S : Sx) (k : Nat) (T : Tab G) (X : Cx) (W : WX) : Prop where
  N : X.N = S.N
  nd : S.N.Nodup
  sc : X.env.scope = S.sc
  kd : S.sc.kind = .function
  calm : X.calm = true
  room : Room (k + 1) X.A
  g : GOk G X.w X.K X.mg
  tab : TOk G X.prog X.w X.K X.mg X.base k T
  tk : Takes X W
  fb : ∀ x, S.fb x = true → X.fn x = true
  po : PassesOwn (model X.prog X.w) X.A X.env X.xe
  full : S.full = true → X.stack = X.env :: X.outer ∧ X.env.frame = some X.env.locals ∧ X.ex = []
abbrev Ev (G : Gm) := Tab G → Env → Hh → R Val
abbrev Tv (G : Gm) := Tab G → Env → Hh → R Bool
abbrev Av (G : Gm) := Tab G → Env → Hh → R (List Val)
abbrev Sv (G : Gm) := Tab G → Env → Hh → RS
def DE (G : Gm) (S : Sx) (e : Expr) (m : Ev G) : Prop := ∀ k T X W, Ctx G S k T X W → PE X e (Lft X.K (rV X.K) W (m T))
def DT (G : Gm) (S : Sx) (e : Expr) (m : Tv G) : Prop := ∀ k T X W, Ctx G S k T X W → PT X e (Lft X.K rB W (m T))
def DW (G : Gm) (S : Sx) (e : Expr) (m : Tv G) : Prop := ∀ k T X W, Ctx G S k T X W → PW X e (Lft X.K rB W (m T))
def DA (G : Gm) (S : Sx) (es : List Expr) (m : Av G) : Prop := ∀ k T X W, Ctx G S k T X W → PA X es (Lft X.K (rVs X.K) W (m T))
def DS (G : Gm) (S : Sx) (st : Stmt) (m : Sv G) : Prop := ∀ k T X W, Ctx G S k T X W → PS X st (LftS X.K W (m T))
def DSs (G : Gm) (S : Sx) (st : List Stmt) (m : Sv G) : Prop := ∀ k T X W, Ctx G S k T X W → PSs X st (LftS X.K W (m T))
theorem _root_.L2.PE.wk {X : Cx} {e : Expr} {t t' : TE} (x : PE X e t) (h : ∀ σ H Q, t' σ H Q → t σ H Q) : PE X e t' := ⟨fun pins s σ H Q I q => x.run pins s σ H Q I (h σ H Q q)⟩
theorem _root_.L2.PT.wk {X : Cx} {e : Expr} {t t' : TT} (x : PT X e t) (h : ∀ σ H Q, t' σ H Q → t σ H Q) : PT X e t' := ⟨fun pins s σ H Q I q => x.run pins s σ H Q I (h σ H Q q)⟩
theorem _root_.L2.PW.wk {X : Cx} {e : Expr} {t t' : TT} (x : PW X e t) (h : ∀ σ H Q, t' σ H Q → t σ H Q) : PW X e t' := ⟨fun wh pins s σ H Q I q => x.run wh pins s σ H Q I (h σ H Q q)⟩
theorem _root_.L2.PA.wk {X : Cx} {e : List Expr} {t t' : TA} (x : PA X e t) (h : ∀ σ H Q, t' σ H Q → t σ H Q) : PA X e t' := ⟨fun pos pins s σ H Q I q => x.run pos pins s σ H Q I (h σ H Q q)⟩
theorem _root_.L2.PS.wk {X : Cx} {e : Stmt} {t t' : TS} (x : PS X e t) (h : ∀ D σ H, t' D σ H → t D σ H) : PS X e t' := ⟨fun pins s σ H D I q => x.run pins s σ H D I (h D σ H q)⟩
theorem _root_.L2.PSs.wk {X : Cx} {e : List Stmt} {t t' : TS} (x : PSs X e t) (h : ∀ D σ H, t' D σ H → t D σ H) : PSs X e t' := ⟨fun pins s σ H D I q => x.run pins s σ H D I (h D σ H q)⟩

/-! ### names and constants -/
section
variable {G : Gm} {S : Sx} {pos : Pos}
def eVar (i : Nat) : Ev G := fun _ ρ h => match ρ[i]? with
  | some (some v) => .ok v h
  | _ => .bad
theorem d_var (i : Nat) {x : Str} (hN : S.N[i]? = some x := by rfl) (hv : Vis S.sc x := by first | exact Or.inl rfl | exact Or.inr (Or.inl rfl) | exact Or.inr (Or.inr rfl)) (hd : (x == ("__debug__" : Str)) = false := by decide)
    (hcd : (x == ("__classdict__" : Str)) = false := by decide) : DE G S (.Name x pos) (eVar i) := fun k T X W C => by
  refine (pe_var (i := i) (by rw [C.N]; exact hN) (by rw [C.sc]; exact hv) hd hcd).wk fun σ H Q ⟨mp, ρ, h, R, E, q⟩ => ?_
  unfold eVar at q
  split at q
  · rename_i v e
    obtain ⟨y, e1, r⟩ := E.2 i v e
    exact ⟨y, e1, q mp y H R .refl r⟩
  · exact q.elim
def eC (x : D) : Ev G := fun _ _ h => .ok (.d x) h
theorem d_int {i : Int} {j} : DE G S (.Constant (.int i) j pos) (eC (.int i)) := fun k T X W C =>
  pe_int.wk fun σ H Q ⟨mp, ρ, h, R, E, q⟩ => q mp (.int i) H R .refl (.d (.int i))
theorem d_bl {b : Bool} {j} : DE G S (.Constant (.bool b) j pos) (eC (.bl b)) := fun k T X W C =>
  pe_bl.wk fun σ H Q ⟨mp, ρ, h, R, E, q⟩ => q mp (.bl b) H R .refl (.d (.bl b))
theorem d_non {j} : DE G S (.Constant .none j pos) (eC .non) := fun k T X W C =>
  pe_non.wk fun σ H Q ⟨mp, ρ, h, R, E, q⟩ => q mp .non H R .refl (.d .non)
theorem d_str {x : Str} {j} : DE G S (.Constant (.str x) j pos) (eC (.str x)) := fun k T X W C =>
  pe_str.wk fun σ H Q ⟨mp, ρ, h, R, E, q⟩ => q mp (.str x) H R .refl (.d (.str x))
/-- a name is the module's -/
abbrev GlS (S : Sx) (x : Str) : Prop := S.sc.names.lookup x = some .globalImplicit
theorem Ctx.gl {k : Nat} {T : Tab G} {X : Cx} {W : WX} (C : Ctx G S k T X W) {x : Str} (h : GlS S x) : Gl X x := by
  show X.env.scope.names.lookup x = some .globalImplicit
  rw [C.sc]
  exact h
theorem d_cn {x : Str} {d : D} (hm : (x, d) ∈ G.cns) (hg : GlS S x := by rfl) (hd : (x == ("__debug__" : Str)) = false := by decide) : DE G S (.Name x pos) (eC d) := fun k T X W C => by
  obtain ⟨v, u, e, r, q⟩ := C.g.cn _ hm
  refine (pe_glob (C.gl hg) e r hd).wk fun σ H Q ⟨mp, ρ, h, R, E, z⟩ => z mp v H R .refl (.d (q H))
end
end Dq
namespace Dq
open PySem PySem.Spec PyProof.Rows L2

/-! ### data as the library's -/
mutual
def D.py : D → PyData
  | .non => .none
  | .bl b => .bool b
  | .int i => .int i
  | .str x => .str x
  | .tup xs => .tuple (pys xs)
def pys : List D → List PyData
  | [] => []
  | x :: xs => x.py :: pys xs
end
mutual
theorem RD.dp {K : PySem.W.Frag} {H : Hp} : ∀ {d : D} {v : V}, RD K H d v → Dp K H v d.py
  | _, _, .non => by rw [D.py]; exact .non
  | _, _, .bl b => by rw [D.py]; exact .bl b
  | _, _, .int i => by rw [D.py]; exact .int i
  | _, _, .str x => by rw [D.py]; exact .str x
  | _, _, .tup s r => by rw [D.py]; exact .tup s (RDs.dp r)
theorem RDs.dp {K : PySem.W.Frag} {H : Hp} : ∀ {ds : List D} {vs : List V}, RDs K H ds vs → DpAll K H vs (pys ds)
  | _, _, .nil => by rw [pys]; exact .nil
  | _, _, .cons a b => by rw [pys]; exact .cons (RD.dp a) (RDs.dp b)
end
mutual
/-- == of data -/
def D.eqv : D → D → Bool
  | .non, .non => true
  | .bl a, .bl b => a == b
  | .bl a, .int j => (if a then 1 else 0) == j
  | .int i, .bl b => i == (if b then 1 else 0)
  | .int i, .int j => i == j
  | .str x, .str y => x == y
  | .tup xs, .tup ys => eqvs xs ys
  | _, _ => false
def eqvs : List D → List D → Bool
  | [], [] => true
  | x :: xs, y :: ys => x.eqv y && eqvs xs ys
  | _, _ => false
end
mutual
theorem eqv_py : ∀ x y : D, PyData.eqv x.py y.py = x.eqv y
  | .non, y => by cases y <;> simp [D.py, PyData.eqv, D.eqv]
  | .bl b, y => by cases y <;> simp [D.py, PyData.eqv, D.eqv]
  | .int i, y => by cases y <;> simp [D.py, PyData.eqv, D.eqv]
  | .str x, y => by cases y <;> simp [D.py, PyData.eqv, D.eqv]
  | .tup xs, y => by
    cases y with
    | tup ys => simp only [D.py, PyData.eqv, D.eqv]; exact eqvs_py xs ys
    | _ => simp [D.py, PyData.eqv, D.eqv]
theorem eqvs_py : ∀ xs ys : List D, PyData.eqvAll (pys xs) (pys ys) = eqvs xs ys
  | [], ys => by cases ys <;> simp [pys, PyData.eqvAll, eqvs]
  | x :: xs, ys => by
    cases ys with
    | nil => simp [pys, PyData.eqvAll, eqvs]
    | cons y ys => simp only [pys, PyData.eqvAll, eqvs]; rw [eqv_py x y, eqvs_py xs ys]
end
mutual
/-- no deeper than == of the model goes, plain signs -/
def D.fit : Nat → D → Bool
  | _, .non => true
  | _, .bl _ => true
  | _, .int _ => true
  | _, .str x => PyData.strOk x
  | 0, .tup _ => false
  | n + 1, .tup xs => fits n xs
def fits : Nat → List D → Bool
  | _, [] => true
  | n, x :: xs => x.fit n && fits n xs
end
mutual
theorem fit_shaped : ∀ (n : Nat) (x : D), x.fit n = true → x.py.canLay0 = true ∧ x.py.depth ≤ n
  | n, .non, _ => by simp [D.py, PyData.canLay0, PyData.depth]
  | n, .bl b, _ => by simp [D.py, PyData.canLay0, PyData.depth]
  | n, .int i, _ => by simp [D.py, PyData.canLay0, PyData.depth]
  | n, .str x, h => by simpa [D.py, PyData.canLay0, PyData.depth, D.fit] using h
  | 0, .tup xs, h => by simp [D.fit] at h
  | n + 1, .tup xs, h => by
    simp only [D.fit] at h
    obtain ⟨h1, h2⟩ := fits_shaped n xs h
    simp only [D.py, PyData.canLay0, PyData.depth]
    exact ⟨h1, by omega⟩
theorem fits_shaped : ∀ (n : Nat) (xs : List D), fits n xs = true → PyData.canLayAll0 (pys xs) = true ∧ PyData.depthAll (pys xs) ≤ n
  | n, [], _ => by simp [pys, PyData.canLayAll0, PyData.depthAll]
  | n, x :: xs, h => by
    simp only [fits, Bool.and_eq_true] at h
    obtain ⟨h1, h2⟩ := fit_shaped n x h.1
    obtain ⟨h3, h4⟩ := fits_shaped n xs h.2
    simp only [pys, PyData.canLayAll0, PyData.depthAll, Bool.and_eq_true]
    exact ⟨⟨h1, h3⟩, by omega⟩
end
theorem D.shaped {x : D} (h : x.fit 64 = true) : SeqAt.shaped x.py = true := by
  obtain ⟨h1, h2⟩ := fit_shaped 64 x h
  simp [SeqAt.shaped, h1, h2]

/-! ### arguments, displays -/
section
variable {G : Gm} {S : Sx} {pos : Pos}
def aNil : Av G := fun _ _ h => .ok [] h
def aCons (m : Ev G) (n : Av G) : Av G := fun T => bnd (m T) fun v => bnd (n T) fun vs _ h => .ok (v :: vs) h
theorem da_nil : DA G S [] (aNil (G := G)) := fun k T X W C => pa_nil.wk fun σ H Q ⟨mp, ρ, h, R, E, q⟩ => q mp [] H R .refl .nil
theorem da_cons {e : Expr} {es : List Expr} {m : Ev G} {n : Av G} (he : DE G S e m) (hr : DA G S es n) (hs : ∀ env, starEach (e :: es) env = (false, eval e env) :: starEach es env := by intro _; rfl) : DA G S (e :: es) (aCons m n) := fun k T X W C => by
  refine (pa_cons (he k T X W C) (hr k T X W C) (hs _)).wk fun σ H Q ⟨mp, ρ, h, R, E, q⟩ => ?_
  refine res_bnd R E q fun v y mp1 h1 H1 X1 R1 E1 r1 q1 => ?_
  refine res_bnd R1 E1 q1 fun vs ys mp2 h2 H2 X2 R2 E2 r2 q2 => ?_
  exact q2 mp2 (y :: ys) H2 R2 .refl (.cons (r1.mono X2) r2)
/-- a tuple of values -/
def allD : List Val → Option (List D)
  | [] => some []
  | .d x :: vs => (allD vs).map (x :: ·)
  | _ :: _ => none
def mkTup (vs : List Val) : Val := match allD vs with
  | some ds => .d (.tup ds)
  | none => .t vs
theorem allD_eq : ∀ {vs : List Val} {ds : List D}, allD vs = some ds → vs = ds.map .d
  | [], ds, e => by
    have e' := Option.some.inj e
    subst e'
    rfl
  | .d x :: vs, ds, e => by
    simp only [allD, Option.map_eq_some_iff] at e
    obtain ⟨es, e1, rfl⟩ := e
    rw [allD_eq e1]
    rfl
  | .r _ :: _, _, e => by simp [allD] at e
  | .t _ :: _, _, e => by simp [allD] at e
  | .fz _ :: _, _, e => by simp [allD] at e
theorem allD_map : ∀ ds : List D, allD (ds.map .d) = some ds
  | [] => rfl
  | d :: ds => by simp [allD, allD_map ds]
theorem mkTup_map (ds : List D) : mkTup (ds.map .d) = .d (.tup ds) := by unfold mkTup; rw [allD_map]
theorem mkTup_rel {K : PySem.W.Frag} {mp : List Addr} {H : Hp} {a : Addr} {xs : List V} {vs : List Val} (s : SqT K H a xs) (r : RVals K mp H vs xs) : RVal K mp H (mkTup vs) (.ref a) := by
  unfold mkTup
  cases e : allD vs with
  | none => exact .t s r
  | some ds =>
    rw [allD_eq e] at r
    exact .d (.tup s r.data)
def eTup (m : Av G) : Ev G := fun T => bnd (m T) fun vs _ h => if vs.length ≤ sizeLine then .ok (mkTup vs) h else .bad
def eLst (m : Av G) : Ev G := fun T => bnd (m T) fun vs _ h => if vs.length ≤ sizeLine then .ok (.r h.length) (h ++ [.lst vs]) else .bad
theorem d_tup {es : List Expr} {m : Av G} {x1} (he : DA G S es m) : DE G S (.Tuple es x1 pos) (eTup m) := fun k T X W C => by
  refine (pe_tup (he k T X W C)).wk fun σ H Q ⟨mp, ρ, h, R, E, q⟩ => ?_
  refine res_bnd R E q fun vs ys mp1 h1 H1 X1 R1 E1 r1 q1 => ?_
  split at q1
  · rename_i hl
    refine ⟨by rw [← r1.length]; exact hl, fun p np => ?_⟩
    obtain ⟨R2, X2⟩ := R1.new (.tup ys) np
    exact q1 mp1 _ _ R2 X2 (mkTup_rel (.of upd_same) (r1.mono X2))
  · exact q1.elim
theorem d_lst {es : List Expr} {m : Av G} (he : DA G S es m) : DE G S (.List es pos) (eLst m) := fun k T X W C => by
  refine (pe_lst (he k T X W C)).wk fun σ H Q ⟨mp, ρ, h, R, E, q⟩ => ?_
  refine res_bnd R E q fun vs ys mp1 h1 H1 X1 R1 E1 r1 q1 => ?_
  split at q1
  · rename_i hl
    refine ⟨by rw [← r1.length]; exact hl, fun p np => ?_⟩
    obtain ⟨R2, X2⟩ := R1.alloc (o := .lst vs) (u := .lst ys) np ⟨ys, upd_same, r1.mono (ext_num np)⟩
    exact q1 _ _ _ R2 X2 (.r (by rw [← R1.len]; simp))
  · exact q1.elim

/-! ### operators -/
def o2 (f : Val → Val → Hh → Option (Val × Hh)) (ma mb : Ev G) : Ev G := fun T => bnd (ma T) fun x => bnd (mb T) fun y _ h => match f x y h with
  | some (v, h') => .ok v h'
  | none => .bad
def o1 (f : Val → Hh → Option (Val × Hh)) (ma : Ev G) : Ev G := fun T => bnd (ma T) fun x _ h => match f x h with
  | some (v, h') => .ok v h'
  | none => .bad
/-- a function of values as a reading -/
def rOf (K : PySem.W.Frag) (f : Val → Val → Hh → Option (Val × Hh)) : R2 := fun x y H Q => ∃ mp h a b v h', HRel K mp H h ∧ RVal K mp H a x ∧ RVal K mp H b y ∧ f a b h = some (v, h') ∧
  ∀ mp' z H', HRel K mp' H' h' → Ext K mp H mp' H' → RVal K mp' H' v z → Q z H'
def rOf1 (K : PySem.W.Frag) (f : Val → Hh → Option (Val × Hh)) : V → Hp → VK → Prop := fun x H Q => ∃ mp h a v h', HRel K mp H h ∧ RVal K mp H a x ∧ f a h = some (v, h') ∧
  ∀ mp' z H', HRel K mp' H' h' → Ext K mp H mp' H' → RVal K mp' H' v z → Q z H'
theorem o2_tOp {X : Cx} {W : WX} {T : Tab G} {ma mb : Ev G} {f : Val → Val → Hh → Option (Val × Hh)} {σ : L2.St} {H : Hp} {Q : VK} (x : Lft X.K (rV X.K) W (o2 f ma mb T) σ H Q) :
    tOp (rOf X.K f) (Lft X.K (rV X.K) W (ma T)) (Lft X.K (rV X.K) W (mb T)) σ H Q := by
  obtain ⟨mp, ρ, h, R, E, q⟩ := x
  refine res_bnd R E q fun v y mp1 h1 H1 X1 R1 E1 r1 q1 => ?_
  refine res_bnd R1 E1 q1 fun v2 y2 mp2 h2 H2 X2 R2 E2 r2 q2 => ?_
  split at q2
  · rename_i z h' e
    exact ⟨mp2, h2, v, v2, z, h', R2, r1.mono X2, r2, e, q2⟩
  · exact q2.elim
theorem d_op {op : Operator} {a b : Expr} {ma mb : Ev G} {f : Val → Val → Hh → Option (Val × Hh)} (ho : ∀ k T X W, Ctx G S k T X W → OpR X (binaryOp op) (rOf X.K f)) (ha : DE G S a ma) (hb : DE G S b mb) : DE G S (.BinOp a op b pos) (o2 f ma mb) := fun k T X W C =>
  (pe_op (ho k T X W C) (ha k T X W C) (hb k T X W C)).wk fun σ H Q x => o2_tOp x
theorem d_un {op : UnaryOp} {a : Expr} {ma : Ev G} {f : Val → Hh → Option (Val × Hh)} (ho : ∀ k T X W, Ctx G S k T X W → UnR X (unaryOp op) (rOf1 X.K f)) (ha : DE G S a ma) : DE G S (.UnaryOp op a pos) (o1 f ma) := fun k T X W C => by
  refine (pe_un (ho k T X W C) (ha k T X W C)).wk fun σ H Q ⟨mp, ρ, h, R, E, q⟩ => ?_
  refine res_bnd R E q fun v y mp1 h1 H1 X1 R1 E1 r1 q1 => ?_
  split at q1
  · rename_i z h' e
    exact ⟨mp1, h1, v, z, h', R1, r1, e, q1⟩
  · exact q1.elim
theorem d_cmp {op : CmpOp} {a b : Expr} {ma mb : Ev G} {f : Val → Val → Hh → Option (Val × Hh)} (ho : ∀ k T X W, Ctx G S k T X W → OpR X (compareOp op) (rOf X.K f)) (ha : DE G S a ma) (hb : DE G S b mb)
    (hm : behindInMarks op b = false := by first | exact nomark _ | rfl) : DE G S (.Compare a [op] [b] pos) (o2 f ma mb) := fun k T X W C =>
  (pe_cmpR (ho k T X W C) (ha k T X W C) (hb k T X W C) hm).wk fun σ H Q x => o2_tOp x
end

/-! ### the operators' functions -/
def wide (i j : Int) : Bool := decide (i.natAbs.log2 + j.natAbs.log2 < 1000000)
def vAdd : Val → Val → Hh → Option (Val × Hh)
  | .d (.int i), .d (.int j), h => some (.d (.int (i + j)), h)
  | .d (.str i), .d (.str j), h => if i.length + j.length ≤ sizeLine then some (.d (.str (i ++ j)), h) else none
  | .d (.tup xs), .d (.tup ys), h => if xs.length + ys.length ≤ sizeLine then some (.d (.tup (xs ++ ys)), h) else none
  | .r n, .r m, h => match h[n]?, h[m]? with
    | some (.lst vs), some (.lst ws) => if vs.length + ws.length ≤ sizeLine then some (.r h.length, h ++ [.lst (vs ++ ws)]) else none
    | _, _ => none
  | _, _, _ => none
def vSub : Val → Val → Hh → Option (Val × Hh)
  | .d (.int i), .d (.int j), h => some (.d (.int (i - j)), h)
  | _, _, _ => none
def vMul : Val → Val → Hh → Option (Val × Hh)
  | .d (.int i), .d (.int j), h => if i.natAbs.log2 + j.natAbs.log2 < 1000000 then some (.d (.int (i * j)), h) else none
  | _, _, _ => none
def vDiv : Val → Val → Hh → Option (Val × Hh)
  | .d (.int i), .d (.int j), h => if 0 < j ∧ j.natAbs.log2 < 9000 then some (.d (.int (i / j)), h) else none
  | _, _, _ => none
def vMod : Val → Val → Hh → Option (Val × Hh)
  | .d (.int i), .d (.int j), h => if 0 < j then some (.d (.int (i % j)), h) else none
  | _, _, _ => none
def vPow : Val → Val → Hh → Option (Val × Hh)
  | .d (.int i), .d (.int j), h => if 0 ≤ j ∧ j ≤ 1000000 ∧ i.natAbs < 2 ^ 64 then some (.d (.int (i ^ j.toNat)), h) else none
  | _, _, _ => none
def vShl : Val → Val → Hh → Option (Val × Hh)
  | .d (.int i), .d (.int j), h => if 0 ≤ j ∧ j ≤ 1000000 ∧ i.natAbs < 2 ^ 64 then some (.d (.int (i * 2 ^ j.toNat)), h) else none
  | _, _, _ => none
def vNeg : Val → Hh → Option (Val × Hh)
  | .d (.int i), h => some (.d (.int (-i)), h)
  | _, _ => none
def vIntB (p : Int → Int → Bool) : Val → Val → Hh → Option (Val × Hh)
  | .d (.int i), .d (.int j), h => some (.d (.bl (p i j)), h)
  | _, _, _ => none
/-- ints, texts -/
def vLt : Val → Val → Hh → Option (Val × Hh)
  | .d (.int i), .d (.int j), h => some (.d (.bl (decide (i < j))), h)
  | .d (.str i), .d (.str j), h => some (.d (.bl (decide (i.cps.toList < j.cps.toList))), h)
  | _, _, _ => none
section
variable {G : Gm} {S : Sx} {X : Cx}
theorem ok_add : OpR X (binaryOp .Add) (rOf X.K vAdd) := by
  intro pins s σ H x y v u Q I rx ry ⟨mp, h, a, b, z, h', R, ra, rb, e, q⟩
  unfold vAdd at e
  split at e
  · cases ra with | d ra => cases ra; cases rb with | d rb => cases rb; cases e; exact op_add pins s σ H _ _ v u Q I rx ry ⟨_, _, rfl, rfl, q mp _ H R .refl (.d (.int _))⟩
  · cases ra with | d ra => cases ra; cases rb with | d rb => cases rb; split at e <;> cases e; rename_i hl; exact op_add_str pins s σ H _ _ v u Q I rx ry ⟨_, _, rfl, rfl, hl, q mp _ H R .refl (.d (.str _))⟩
  · cases ra with
    | d ra =>
      cases ra with
      | tup s1 r1 =>
        cases rb with
        | d rb =>
          cases rb with
          | tup s2 r2 =>
            split at e <;> cases e
            rename_i hl
            refine op_catA pins s σ H _ _ v u Q I rx ry ⟨_, _, _, _, rfl, rfl, s1, s2, by rw [← r1.length, ← r2.length]; exact hl, fun e1 => ?_, fun _ e2 => ?_, fun _ _ p np => ?_⟩
            · subst e1
              cases r1
              exact q mp _ H R .refl (.d (.tup s2 r2))
            · subst e2
              cases r2
              rw [List.append_nil] at q
              exact q mp _ H R .refl (.d (.tup s1 r1))
            · obtain ⟨R2, X2⟩ := R.new (.tup _) np
              refine q mp _ _ R2 X2 (.d (.tup (.of upd_same) ?_))
              have z : RVals X.K mp H _ _ := RVals.append (r1.vals (mp := mp)) r2.vals
              rw [← List.map_append] at z
              exact (z.data).mono X2.tup
  · split at e
    · rename_i vs ws e1 e2
      split at e <;> cases e
      rename_i hl
      cases ra with
      | r m1 =>
        cases rb with
        | r m2 =>
          obtain ⟨xs, o1, q1⟩ := R.obj m1 e1
          obtain ⟨ys, o2, q2⟩ := R.obj m2 e2
          refine op_cat pins s σ H _ _ v u Q I rx ry ⟨_, _, _, _, rfl, rfl, o1, o2, by rw [← q1.length, ← q2.length]; exact hl, fun p np => ?_⟩
          obtain ⟨R2, X2⟩ := R.alloc (o := .lst (vs ++ ws)) (u := .lst (xs ++ ys)) np ⟨_, upd_same, (q1.append q2).mono (ext_num np)⟩
          exact q _ _ _ R2 X2 (.r (by rw [← R.len]; simp))
    · cases e
  · cases e
end
end Dq
namespace Dq
open PySem PySem.Spec PyProof.Rows L2

/-! ### sequences -/
def seqOf (v : Val) (h : Hh) : Option (List Val) := match v with
  | .d (.tup ds) => some (ds.map .d)
  | .t vs => some vs
  | .fz ds => some (ds.map .d)
  | .r n => (match h[n]? with
    | some (.lst vs) => some vs
    | _ => none)
  | _ => none
section
variable {K : PySem.W.Frag} {mp : List Addr} {H : Hp} {h : Hh}
theorem seq_rel (R : HRel K mp H h) {v : Val} {x : V} {vs : List Val} (r : RVal K mp H v x) (e : seqOf v h = some vs) : ∃ a xs, x = .ref a ∧ (SqL K H a xs ∨ SqT K H a xs) ∧ RVals K mp H vs xs := by
  unfold seqOf at e
  split at e
  · cases e
    cases r with | d r => cases r with | tup s r => exact ⟨_, _, rfl, .inr s, r.vals⟩
  · cases e
    cases r with | t s r => exact ⟨_, _, rfl, .inr s, r⟩
  · cases e
    cases r with | fz s r => exact ⟨_, _, rfl, .inl s.sq, r.vals⟩
  · split at e
    · rename_i n vs' e1
      cases e
      cases r with
      | r m =>
        obtain ⟨xs, q, z⟩ := R.obj m e1
        exact ⟨_, xs, rfl, .inl (.of q), z⟩
    · cases e
  · cases e
end

/-! ### the other operators -/
section
variable {G : Gm} {S : Sx} {X : Cx}
theorem ok_sub : OpR X (binaryOp .Sub) (rOf X.K vSub) := by
  intro pins s σ H x y v u Q I rx ry ⟨mp, h, a, b, z, h', R, ra, rb, e, q⟩
  unfold vSub at e
  split at e
  · cases ra with | d ra => cases ra; cases rb with | d rb => cases rb; cases e; exact op_sub pins s σ H _ _ v u Q I rx ry ⟨_, _, rfl, rfl, q mp _ H R .refl (.d (.int _))⟩
  · cases e
theorem ok_mul : OpR X (binaryOp .Mult) (rOf X.K vMul) := by
  intro pins s σ H x y v u Q I rx ry ⟨mp, h, a, b, z, h', R, ra, rb, e, q⟩
  unfold vMul at e
  split at e
  · cases ra with | d ra => cases ra; cases rb with | d rb => cases rb; split at e <;> cases e; rename_i hc; exact op_mulW pins s σ H _ _ v u Q I rx ry ⟨_, _, rfl, rfl, hc, q mp _ H R .refl (.d (.int _))⟩
  · cases e
theorem ok_div : OpR X (binaryOp .FloorDiv) (rOf X.K vDiv) := by
  intro pins s σ H x y v u Q I rx ry ⟨mp, h, a, b, z, h', R, ra, rb, e, q⟩
  unfold vDiv at e
  split at e
  · cases ra with | d ra => cases ra; cases rb with | d rb => cases rb; split at e <;> cases e; rename_i hc; exact op_fdivW pins s σ H _ _ v u Q I rx ry ⟨_, _, rfl, rfl, hc, q mp _ H R .refl (.d (.int _))⟩
  · cases e
theorem ok_mod : OpR X (binaryOp .Mod) (rOf X.K vMod) := by
  intro pins s σ H x y v u Q I rx ry ⟨mp, h, a, b, z, h', R, ra, rb, e, q⟩
  unfold vMod at e
  split at e
  · cases ra with | d ra => cases ra; cases rb with | d rb => cases rb; split at e <;> cases e; rename_i hc; exact op_mod pins s σ H _ _ v u Q I rx ry ⟨_, _, rfl, rfl, hc, q mp _ H R .refl (.d (.int _))⟩
  · cases e
theorem ok_pow : OpR X (binaryOp .Pow) (rOf X.K vPow) := by
  intro pins s σ H x y v u Q I rx ry ⟨mp, h, a, b, z, h', R, ra, rb, e, q⟩
  unfold vPow at e
  split at e
  · cases ra with | d ra => cases ra; cases rb with | d rb => cases rb; split at e <;> cases e; rename_i hc; exact op_pow pins s σ H _ _ v u Q I rx ry ⟨_, _, rfl, rfl, hc, q mp _ H R .refl (.d (.int _))⟩
  · cases e
theorem ok_shl : OpR X (binaryOp .LShift) (rOf X.K vShl) := by
  intro pins s σ H x y v u Q I rx ry ⟨mp, h, a, b, z, h', R, ra, rb, e, q⟩
  unfold vShl at e
  split at e
  · cases ra with | d ra => cases ra; cases rb with | d rb => cases rb; split at e <;> cases e; rename_i hc; exact op_shl pins s σ H _ _ v u Q I rx ry ⟨_, _, rfl, rfl, hc, q mp _ H R .refl (.d (.int _))⟩
  · cases e
theorem ok_neg : UnR X (unaryOp .USub) (rOf1 X.K vNeg) := by
  intro pins s σ H x v Q I rx ⟨mp, h, a, z, h', R, ra, e, q⟩
  unfold vNeg at e
  split at e
  · cases ra with | d ra => cases ra; cases e; exact un_neg pins s σ H _ v Q I rx ⟨_, rfl, q mp _ H R .refl (.d (.int _))⟩
  · cases e
theorem ok_lt : OpR X (compareOp .Lt) (rOf X.K vLt) := by
  intro pins s σ H x y v u Q I rx ry ⟨mp, h, a, b, z, h', R, ra, rb, e, q⟩
  unfold vLt at e
  split at e
  · cases ra with | d ra => cases ra; cases rb with | d rb => cases rb; cases e; exact op_lt pins s σ H _ _ v u Q I rx ry ⟨_, _, rfl, rfl, q mp _ H R .refl (.d (.bl _))⟩
  · cases ra with | d ra => cases ra; cases rb with | d rb => cases rb; cases e; exact op_lt_str pins s σ H _ _ v u Q I rx ry ⟨_, _, rfl, rfl, q mp _ H R .refl (.d (.bl _))⟩
  · cases e
abbrev vLe := vIntB fun i j => decide (i ≤ j)
abbrev vGt := vIntB fun i j => decide (j < i)
abbrev vGe := vIntB fun i j => decide (j ≤ i)
theorem ok_le : OpR X (compareOp .LtE) (rOf X.K vLe) := by
  intro pins s σ H x y v u Q I rx ry ⟨mp, h, a, b, z, h', R, ra, rb, e, q⟩
  unfold vLe vIntB at e
  split at e
  · cases ra with | d ra => cases ra; cases rb with | d rb => cases rb; cases e; exact op_le pins s σ H _ _ v u Q I rx ry ⟨_, _, rfl, rfl, q mp _ H R .refl (.d (.bl _))⟩
  · cases e
theorem ok_gt : OpR X (compareOp .Gt) (rOf X.K vGt) := by
  intro pins s σ H x y v u Q I rx ry ⟨mp, h, a, b, z, h', R, ra, rb, e, q⟩
  unfold vGt vIntB at e
  split at e
  · cases ra with | d ra => cases ra; cases rb with | d rb => cases rb; cases e; exact op_gt pins s σ H _ _ v u Q I rx ry ⟨_, _, rfl, rfl, q mp _ H R .refl (.d (.bl _))⟩
  · cases e
theorem ok_ge : OpR X (compareOp .GtE) (rOf X.K vGe) := by
  intro pins s σ H x y v u Q I rx ry ⟨mp, h, a, b, z, h', R, ra, rb, e, q⟩
  unfold vGe vIntB at e
  split at e
  · cases ra with | d ra => cases ra; cases rb with | d rb => cases rb; cases e; exact op_ge pins s σ H _ _ v u Q I rx ry ⟨_, _, rfl, rfl, q mp _ H R .refl (.d (.bl _))⟩
  · cases e
/-- what == tells apart without a look within -/
def scalD : D → D → Bool
  | .tup _, _ => false
  | _, .tup _ => false
  | .int _, .bl _ => false
  | .bl _, .int _ => false
  | _, _ => true
def eqB (a b : Val) (h : Hh) : Option Bool := match a, b with
  | .d x, .d y => if scalD x y = true ∨ (x.fit 64 = true ∧ y.fit 64 = true) then some (x.eqv y) else none
  | .r n, .r m => (match h[n]?, h[m]? with
    | some (.lst vs), some (.lst ws) => (match allD vs, allD ws with
      | some ds, some es => if fits 63 ds = true ∧ fits 63 es = true then some (eqvs ds es) else none
      | _, _ => none)
    | _, _ => none)
  | _, _ => none
def vEq (a b : Val) (h : Hh) : Option (Val × Hh) := (eqB a b h).map fun c => (.d (.bl c), h)
def vNe (a b : Val) (h : Hh) : Option (Val × Hh) := (eqB a b h).map fun c => (.d (.bl (!c)), h)
theorem scal_rel {K : PySem.W.Frag} {H : Hp} {x y : D} {v w : V} (hs : scalD x y = true) (r : RD K H x v) (q : RD K H y w) : scal v w = true ∧ decide (v = w) = x.eqv y := by
  cases r <;> cases q <;> first
    | (exact absurd (show false = true from hs) Bool.false_ne_true)
    | (refine ⟨rfl, ?_⟩; rw [Bool.eq_iff_iff]; simp [D.eqv])
theorem shaped_lst {ds : List D} (h : fits 63 ds = true) : SeqAt.shaped (.list (pys ds)) = true := by
  obtain ⟨h1, h2⟩ := fits_shaped 63 ds h
  refine Bool.and_eq_true_iff.mpr ⟨?_, decide_eq_true ?_⟩
  · rw [PyData.canLay0]; exact h1
  · rw [PyData.depth]; omega
theorem eq_both {mp : List Addr} {H : Hp} {h : Hh} {a b : Val} {x y : V} {c : Bool} (R : HRel X.K mp H h) (ra : RVal X.K mp H a x) (rb : RVal X.K mp H b y) (e : eqB a b h = some c) :
    (scal x y = true ∧ decide (x = y) = c) ∨ ∃ d f, Dp X.K H x d ∧ Dp X.K H y f ∧ SeqAt.shaped d = true ∧ SeqAt.shaped f = true ∧ PyData.eqv d f = c := by
  unfold eqB at e
  split at e
  · split at e
    · rename_i x' y' hc
      cases e
      cases ra with
      | d ra =>
        cases rb with
        | d rb =>
          rcases hc with hc | ⟨h1, h2⟩
          · exact .inl (scal_rel hc ra rb)
          · exact .inr ⟨_, _, ra.dp, rb.dp, D.shaped h1, D.shaped h2, eqv_py _ _⟩
    · cases e
  · split at e
    · rename_i vs ws e1 e2
      split at e
      · rename_i ds es d1 d2
        split at e <;> cases e
        rename_i hf
        cases ra with
        | r m1 =>
          cases rb with
          | r m2 =>
            obtain ⟨xs, o1, q1⟩ := R.obj m1 e1
            obtain ⟨ys, o2, q2⟩ := R.obj m2 e2
            rw [allD_eq d1] at q1
            rw [allD_eq d2] at q2
            refine .inr ⟨_, _, .lst (.of o1) q1.data.dp, .lst (.of o2) q2.data.dp, shaped_lst hf.1, shaped_lst hf.2, ?_⟩
            rw [PyData.eqv]
            exact eqvs_py _ _
      · cases e
    · cases e
  · cases e
theorem ok_eq (hu : X.A.units + 64 < cLine) : OpR X (compareOp .Eq) (rOf X.K vEq) := by
  intro pins s σ H x y v u Q I rx ry ⟨mp, h, a, b, z, h', R, ra, rb, e, q⟩
  obtain ⟨c, e1, e2⟩ := Option.map_eq_some_iff.mp e
  cases e2
  rcases eq_both R ra rb e1 with ⟨h1, h2⟩ | ⟨d, f, h1, h2, h3, h4, h5⟩
  · exact op_eq pins s σ H _ _ v u Q I rx ry ⟨h1, by rw [h2]; exact q mp _ H R .refl (.d (.bl _))⟩
  · exact op_eqD hu pins s σ H _ _ v u Q I rx ry ⟨d, f, h1, h2, h3, h4, by rw [h5]; exact q mp _ H R .refl (.d (.bl _))⟩
theorem ok_ne (hu : X.A.units + 64 < cLine) : OpR X (compareOp .NotEq) (rOf X.K vNe) := by
  intro pins s σ H x y v u Q I rx ry ⟨mp, h, a, b, z, h', R, ra, rb, e, q⟩
  obtain ⟨c, e1, e2⟩ := Option.map_eq_some_iff.mp e
  cases e2
  rcases eq_both R ra rb e1 with ⟨h1, h2⟩ | ⟨d, f, h1, h2, h3, h4, h5⟩
  · exact op_ne pins s σ H _ _ v u Q I rx ry ⟨h1, by rw [h2]; exact q mp _ H R .refl (.d (.bl _))⟩
  · exact op_neD hu pins s σ H _ _ v u Q I rx ry ⟨d, f, h1, h2, h3, h4, by rw [h5]; exact q mp _ H R .refl (.d (.bl _))⟩
def Val.isNon : Val → Bool
  | .d .non => true
  | _ => false
def vIsN (a b : Val) (h : Hh) : Option (Val × Hh) := if b.isNon = true then some (.d (.bl a.isNon), h) else none
def vNotN (a b : Val) (h : Hh) : Option (Val × Hh) := if b.isNon = true then some (.d (.bl (!a.isNon)), h) else none
theorem isNon_rel {K : PySem.W.Frag} {mp : List Addr} {H : Hp} {a : Val} {x : V} (r : RVal K mp H a x) : decide (x = .non) = a.isNon := by
  cases r with
  | d r => cases r <;> simp [Val.isNon]
  | r _ => simp [Val.isNon]
  | t _ _ => simp [Val.isNon]
  | fz _ _ => simp [Val.isNon]
theorem ok_isN : OpR X (compareOp .Is) (rOf X.K vIsN) := by
  intro pins s σ H x y v u Q I rx ry ⟨mp, h, a, b, z, h', R, ra, rb, e, q⟩
  unfold vIsN at e
  split at e <;> cases e
  rename_i hb
  rw [← isNon_rel rb] at hb
  exact op_isN pins s σ H _ _ v u Q I rx ry ⟨of_decide_eq_true hb, by rw [isNon_rel ra]; exact q mp _ H R .refl (.d (.bl _))⟩
theorem ok_notN : OpR X (compareOp .IsNot) (rOf X.K vNotN) := by
  intro pins s σ H x y v u Q I rx ry ⟨mp, h, a, b, z, h', R, ra, rb, e, q⟩
  unfold vNotN at e
  split at e <;> cases e
  rename_i hb
  rw [← isNon_rel rb] at hb
  exact op_notN pins s σ H _ _ v u Q I rx ry ⟨of_decide_eq_true hb, by rw [isNon_rel ra]; exact q mp _ H R .refl (.d (.bl _))⟩

/-! ### in, not in -/
def D.flat : D → Bool
  | .tup _ => false
  | _ => true
def keyD : D → Option Key
  | .int i => some (.inl i)
  | .str x => some (.inr x)
  | _ => none
/-- a dict's value -/
def dget (kvs : List (Key × Val)) (k : Key) : Option Val := (kvs.find? fun kv => decide (kv.1 = k)).map (·.2)
def inB (a b : Val) (h : Hh) : Option Bool := match a, b with
  | .d (.str x), .d (.str z) => if x.cps.toList.length = 1 then some (decide (x.cps.toList.getD 0 0 ∈ z.cps.toList)) else none
  | .d x, b => (match b, (match b with | .r n => h[n]? | _ => none) with
    | _, some (.dic kvs) => (keyD x).map fun k => (dget kvs k).isSome
    | b, _ => (match (seqOf b h).bind allD with
      | some ds => if (x.flat = true ∧ ds.all D.flat = true) ∨ (x.fit 64 = true ∧ fits 63 ds = true) then some (ds.any fun y => y.eqv x) else none
      | none => none))
  | _, _ => none
def vIn (a b : Val) (h : Hh) : Option (Val × Hh) := (inB a b h).map fun c => (.d (.bl c), h)
def vNotIn (a b : Val) (h : Hh) : Option (Val × Hh) := (inB a b h).map fun c => (.d (.bl (!c)), h)
theorem pys_any (x : D) : ∀ ds : List D, ((pys ds).any fun z => PyData.eqv z x.py) = ds.any fun y => y.eqv x
  | [] => rfl
  | d :: ds => by rw [pys, List.any_cons, List.any_cons, eqv_py, pys_any x ds]
theorem flat_rel {K : PySem.W.Frag} {H : Hp} {x : D} {v : V} (f : x.flat = true) (r : RD K H x v) : flatV v = true := by
  cases r <;> first | rfl | exact absurd (show false = true from f) Bool.false_ne_true
theorem flats_rel {K : PySem.W.Frag} {H : Hp} : ∀ {ds : List D} {vs : List V}, ds.all D.flat = true → RDs K H ds vs → vs.all flatV = true
  | [], _, _, .nil => rfl
  | _ :: _, _, f, .cons a b => by
    simp only [List.all_cons, Bool.and_eq_true] at f ⊢
    exact ⟨flat_rel f.1 a, flats_rel f.2 b⟩
theorem eqV_rel {K : PySem.W.Frag} {H : Hp} {x y : D} {v w : V} (f : x.flat = true) (g : y.flat = true) (r : RD K H x v) (q : RD K H y w) : eqV v w = x.eqv y := by
  cases r <;> cases q <;> first
    | (exact absurd (show false = true from f) Bool.false_ne_true)
    | (exact absurd (show false = true from g) Bool.false_ne_true)
    | simp [eqV, D.eqv]
theorem inV_rel {K : PySem.W.Frag} {H : Hp} {x : D} {v : V} (f : x.flat = true) (r : RD K H x v) : ∀ {ds : List D} {vs : List V}, ds.all D.flat = true → RDs K H ds vs → inV v vs = ds.any fun y => y.eqv x
  | [], _, _, .nil => rfl
  | _ :: _, _, g, .cons a b => by
    simp only [List.all_cons, Bool.and_eq_true] at g
    have ih := inV_rel f r g.2 b
    unfold inV at ih ⊢
    rw [List.any_cons, List.any_cons, eqV_rel g.1 f a r, ih]
theorem str_one {x : Str} (h : x.cps.toList.length = 1) : x = ⟨#[x.cps.toList.getD 0 0]⟩ := by
  obtain ⟨⟨l⟩⟩ := x
  match l, h with
  | [a], _ => rfl
theorem kv_find {K : PySem.W.Frag} {mp : List Addr} {H : Hp} (k : Key) : ∀ {kvs : List (Key × Val)} {ks : List (Key × V)}, RKv K mp H kvs ks →
    (∀ v, dget kvs k = some v → ∃ y, valV ks k = some y ∧ RVal K mp H v y) ∧ (dget kvs k = none → valV ks k = none)
  | [], _, .nil => ⟨fun v e => by simp [dget] at e, fun _ => rfl⟩
  | (j, w) :: kvs, (j', w') :: ks, .cons r t => by
    obtain ⟨e0, r0⟩ := r
    have e0 : j = j' := e0
    subst e0
    obtain ⟨h1, h2⟩ := kv_find k t
    by_cases hj : j = k
    · refine ⟨fun v e => ?_, fun e => ?_⟩
      · have e2 : w = v := by simpa [dget, List.find?_cons, hj] using e
        subst e2
        exact ⟨w', valV_pos hj, r0⟩
      · simp [dget, List.find?_cons, hj] at e
    · refine ⟨fun v e => ?_, fun e => ?_⟩
      · rw [valV_neg hj]
        exact h1 v (by simpa [dget, List.find?_cons, hj] using e)
      · rw [valV_neg hj]
        exact h2 (by simpa [dget, List.find?_cons, hj] using e)
theorem kv_some {K : PySem.W.Frag} {mp : List Addr} {H : Hp} (k : Key) {kvs : List (Key × Val)} {ks : List (Key × V)} (r : RKv K mp H kvs ks) : (valV ks k).isSome = (dget kvs k).isSome := by
  obtain ⟨h1, h2⟩ := kv_find k r
  cases e : dget kvs k with
  | none => rw [h2 e] <;> rfl
  | some v =>
    obtain ⟨y, e1, _⟩ := h1 v e
    rw [e1] <;> rfl
theorem key_rel {K : PySem.W.Frag} {H : Hp} {x : D} {v : V} {k : Key} (e : keyD x = some k) (r : RD K H x v) : v = kV k := by
  cases r <;> simp [keyD] at e <;> subst e <;> rfl
/-- the four ways of in -/
theorem in_ways {mp : List Addr} {H : Hp} {h : Hh} {a b : Val} {x y : V} {c : Bool} (R : HRel X.K mp H h) (ra : RVal X.K mp H a x) (rb : RVal X.K mp H b y) (e : inB a b h = some c) :
    (∃ (n : Nat) (z : Str), x = .str ⟨#[n]⟩ ∧ y = .str z ∧ decide (n ∈ z.cps.toList) = c) ∨
    (∃ d o, y = .ref d ∧ DGet H d x o ∧ o.isSome = c) ∨
    (∃ p xs, y = .ref p ∧ (SqL X.K H p xs ∨ SqT X.K H p xs) ∧ flatV x = true ∧ xs.all flatV = true ∧ inV x xs = c) ∨
    (∃ d ds p xs, Dp X.K H x d ∧ y = .ref p ∧ (SqL X.K H p xs ∨ SqT X.K H p xs) ∧ DpAll X.K H xs ds ∧ SeqAt.shaped d = true ∧ SeqAt.shaped (.list ds) = true ∧ (ds.any fun z => PyData.eqv z d) = c) := by
  unfold inB at e
  split at e
  · split at e <;> cases e
    rename_i x' z' hl
    cases ra with | d ra => cases ra; cases rb with | d rb => cases rb; exact .inl ⟨_, _, by rw [← str_one hl], rfl, rfl⟩
  · rename_i x' b' hnot
    cases ra with
    | d ra =>
      split at e
      · rename_i kvs hb
        obtain ⟨k, ek, ec⟩ := Option.map_eq_some_iff.mp e
        subst ec
        split at hb
        · rename_i n
          cases rb with
          | r m =>
            obtain ⟨ks, o1, q1⟩ := R.obj m hb
            exact .inr (.inl ⟨_, valV ks k, rfl, by rw [key_rel ek ra]; exact .k o1, kv_some k q1⟩)
        · cases hb
      · split at e
        · rename_i ds hds
          obtain ⟨vs, e1, e2⟩ := Option.bind_eq_some_iff.mp hds
          obtain ⟨p, xs, ey, hs, rs⟩ := seq_rel R rb e1
          rw [allD_eq e2] at rs
          split at e <;> cases e
          rename_i hc
          rcases hc with ⟨f1, f2⟩ | ⟨f1, f2⟩
          · exact .inr (.inr (.inl ⟨p, xs, ey, hs, flat_rel f1 ra, flats_rel f2 rs.data, inV_rel f1 ra f2 rs.data⟩))
          · exact .inr (.inr (.inr ⟨_, _, p, xs, ra.dp, ey, hs, rs.data.dp, D.shaped f1, shaped_lst f2, pys_any _ _⟩))
        · cases e
  · cases e
theorem ok_in (hu : X.A.units + 65 < cLine) : OpR X (compareOp .In) (rOf X.K vIn) := by
  intro pins s σ H x y v u Q I rx ry ⟨mp, h, a, b, z, h', R, ra, rb, e, q⟩
  obtain ⟨c, e1, e2⟩ := Option.map_eq_some_iff.mp e
  cases e2
  rcases in_ways R ra rb e1 with ⟨n, z, rfl, rfl, hc⟩ | ⟨d, o, rfl, g, hc⟩ | ⟨p, xs, rfl, hs, f1, f2, hc⟩ | ⟨d, ds, p, xs, hd, rfl, hs, ha, s1, s2, hc⟩
  · exact op_in_sign pins s σ H _ _ v u Q I rx ry ⟨n, z, rfl, rfl, by rw [hc]; exact q mp _ H R .refl (.d (.bl _))⟩
  · cases (show u = Value.ref d from ry)
    exact d_in (by omega) I g rx fun s' I' => ⟨.bl _, H, I', rfl, by rw [hc]; exact q mp _ H R .refl (.d (.bl _))⟩
  · exact op_in_seq pins s σ H _ _ v u Q I rx ry ⟨p, xs, rfl, hs, f1, f2, by show Q (.bl (inV x xs)) H; rw [hc]; exact q mp _ H R .refl (.d (.bl _))⟩
  · rcases hs with hs | hs
    · exact op_inD hu pins s σ H _ _ v u Q I rx ry ⟨d, ds, hd, .lst hs ha, s1, s2, by rw [hc]; exact q mp _ H R .refl (.d (.bl _))⟩
    · obtain ⟨as, r1⟩ := Dp.reads I d x v hd rx
      obtain ⟨bs, r2⟩ := Dp.reads I (.tuple ds) _ u (.tup hs ha) ry
      exact SeqAt.in_tuple_reads r2 r1 (SeqAt.canLay_of_shaped s2) (SeqAt.canLay_of_shaped s1) (room_in_shaped s1 hu) ⟨.bl _, H, I, rfl, by rw [hc]; exact q mp _ H R .refl (.d (.bl _))⟩
theorem ok_notIn (hu : X.A.units + 65 < cLine) : OpR X (compareOp .NotIn) (rOf X.K vNotIn) := by
  intro pins s σ H x y v u Q I rx ry ⟨mp, h, a, b, z, h', R, ra, rb, e, q⟩
  obtain ⟨c, e1, e2⟩ := Option.map_eq_some_iff.mp e
  cases e2
  rcases in_ways R ra rb e1 with ⟨n, z, rfl, rfl, hc⟩ | ⟨d, o, rfl, g, hc⟩ | ⟨p, xs, rfl, hs, f1, f2, hc⟩ | ⟨d, ds, p, xs, hd, rfl, hs, ha, s1, s2, hc⟩
  · exact op_notIn_sign pins s σ H _ _ v u Q I rx ry ⟨n, z, rfl, rfl, by rw [hc]; exact q mp _ H R .refl (.d (.bl _))⟩
  · cases (show u = Value.ref d from ry)
    exact d_notIn (by omega) I g rx fun s' I' => ⟨.bl _, H, I', rfl, by rw [hc]; exact q mp _ H R .refl (.d (.bl _))⟩
  · exact op_notIn_seq pins s σ H _ _ v u Q I rx ry ⟨p, xs, rfl, hs, f1, f2, by show Q (.bl (!inV x xs)) H; rw [hc]; exact q mp _ H R .refl (.d (.bl _))⟩
  · rcases hs with hs | hs
    · exact op_notInD hu pins s σ H _ _ v u Q I rx ry ⟨d, ds, hd, .lst hs ha, s1, s2, by rw [hc]; exact q mp _ H R .refl (.d (.bl _))⟩
    · obtain ⟨as, r1⟩ := Dp.reads I d x v hd rx
      obtain ⟨bs, r2⟩ := Dp.reads I (.tuple ds) _ u (.tup hs ha) ry
      exact SeqAt.notIn_tuple_reads r2 r1 (SeqAt.canLay_of_shaped s2) (SeqAt.canLay_of_shaped s1) (room_in_shaped s1 hu) ⟨.bl _, H, I, rfl, by rw [hc]; exact q mp _ H R .refl (.d (.bl _))⟩
end
end Dq
namespace Dq
open PySem PySem.Spec PyProof.Rows L2

/-! ### tests -/
section
variable {G : Gm} {S : Sx} {pos : Pos}
def qVal (m : Ev G) : Tv G := fun T => bnd (m T) fun v _ h => match v with
  | .d (.bl b) => .ok b h
  | _ => .bad
/-- a value's truth -/
def truB (v : Val) (h : Hh) : Option Bool := match v with
  | .d .non => some false
  | .d (.bl b) => some b
  | .d (.int i) => some (i != 0)
  | .d (.str x) => if x.length ≤ sizeLine then some ((x.length : Int) != 0) else none
  | .r n => (match h[n]? with
    | some (.lst vs) => some (!vs.isEmpty)
    | some (.dic kvs) => some (!kvs.isEmpty)
    | _ => none)
  | v => (seqOf v h).map fun vs => !vs.isEmpty
def qTru (m : Ev G) : Tv G := fun T => bnd (m T) fun v _ h => match truB v h with
  | some b => .ok b h
  | none => .bad
def qNot (m : Tv G) : Tv G := fun T => bnd (m T) fun b _ h => .ok (!b) h
def qAnd (m n : Tv G) : Tv G := fun T => bnd (m T) fun b ρ h => if b = true then n T ρ h else .ok false h
def qOr (m n : Tv G) : Tv G := fun T => bnd (m T) fun b ρ h => if b = true then .ok true h else n T ρ h
theorem val_tT {X : Cx} {W : WX} {T : Tab G} {m : Ev G} {t : TE} {σ : L2.St} {H : Hp} {Q : Bool → Hp → Prop} (ht : ∀ σ H Q, Lft X.K (rV X.K) W (m T) σ H Q → t σ H Q) (x : Lft X.K rB W (qVal m T) σ H Q) :
    t σ H fun x H' => ∃ k, x = .bl k ∧ Q k H' := by
  obtain ⟨mp, ρ, h, R, E, q⟩ := x
  refine ht _ _ _ (res_bnd R E q fun v y mp1 h1 H1 X1 R1 E1 r1 q1 => ?_)
  split at q1
  · cases r1 with | d r1 => cases r1; exact ⟨_, rfl, q1 mp1 _ H1 R1 .refl rfl⟩
  · exact q1.elim
theorem dt_cmp {op : CmpOp} {a b : Expr} {ma mb : Ev G} {f : Val → Val → Hh → Option (Val × Hh)} (ho : ∀ k T X W, Ctx G S k T X W → OpR X (compareOp op) (rOf X.K f)) (ha : DE G S a ma) (hb : DE G S b mb)
    (hm : behindInMarks op b = false := by first | exact nomark _ | rfl) : DT G S (.Compare a [op] [b] pos) (qVal (o2 f ma mb)) := fun k T X W C =>
  (pt_cmpR (ho k T X W C) (ha k T X W C) (hb k T X W C) hm).wk fun σ H Q x => val_tT (fun _ _ _ z => o2_tOp z) x
/-- a op b op' c -/
def eChain (f g : Val → Val → Hh → Option (Val × Hh)) (ma mb mc : Ev G) : Ev G := fun T => bnd (ma T) fun x => bnd (mb T) fun y ρ h => match f x y h with
  | some (.d (.bl true), h') => bnd (mc T) (fun z _ h2 => match g y z h2 with
    | some (v, h3) => .ok v h3
    | none => .bad) ρ h'
  | some (.d (.bl false), h') => .ok (.d (.bl false)) h'
  | _ => .bad
theorem chain_t {X : Cx} {W : WX} {T : Tab G} {ma mb mc : Ev G} {f g : Val → Val → Hh → Option (Val × Hh)} {σ : L2.St} {H : Hp} {Q : VK} (x : Lft X.K (rV X.K) W (eChain f g ma mb mc T) σ H Q) :
    tChain (rOf X.K f) (rOf X.K g) (Lft X.K (rV X.K) W (ma T)) (Lft X.K (rV X.K) W (mb T)) (Lft X.K (rV X.K) W (mc T)) σ H Q := by
  obtain ⟨mp, ρ, h, R, E, q⟩ := x
  refine res_bnd R E q fun v y mp1 h1 H1 X1 R1 E1 r1 q1 => ?_
  refine res_bnd R1 E1 q1 fun v2 y2 mp2 h2 H2 X2 R2 E2 r2 q2 => ?_
  split at q2
  · rename_i h' e
    refine ⟨mp2, h2, v, v2, _, h', R2, r1.mono X2, r2, e, fun mp3 z H3 R3 X3 rz => ?_⟩
    cases rz with
    | d rz =>
      cases rz
      refine ⟨true, rfl, ?_⟩
      rw [if_pos rfl]
      refine res_bnd R3 (E2.mono X3) (q2.shift X3) fun v4 y4 mp4 h4 H4 X4 R4 E4 r4 q4 => ?_
      split at q4
      · rename_i z' h5 e5
        exact ⟨mp4, h4, v2, v4, z', h5, R4, r2.mono (X3.trans X4), r4, e5, q4⟩
      · exact q4.elim
  · rename_i h' e
    refine ⟨mp2, h2, v, v2, _, h', R2, r1.mono X2, r2, e, fun mp3 z H3 R3 X3 rz => ?_⟩
    cases rz with
    | d rz =>
      cases rz
      refine ⟨false, rfl, ?_⟩
      rw [if_neg Bool.false_ne_true]
      exact q2 mp3 _ H3 R3 X3 (.d (.bl false))
  · exact q2.elim
theorem d_chain {op op' : CmpOp} {a b c : Expr} {ma mb mc : Ev G} {f g : Val → Val → Hh → Option (Val × Hh)} (ho : ∀ k T X W, Ctx G S k T X W → OpR X (compareOp op) (rOf X.K f)) (ho' : ∀ k T X W, Ctx G S k T X W → OpR X (compareOp op') (rOf X.K g))
    (ha : DE G S a ma) (hb : DE G S b mb) (hc : DE G S c mc) (hm : lastMarks [op, op'] [b, c] = false := by with_unfolding_all rfl) : DE G S (.Compare a [op, op'] [b, c] pos) (eChain f g ma mb mc) := fun k T X W C =>
  (pe_chain (ho k T X W C) (ho' k T X W C) (ha k T X W C) (hb k T X W C) (hc k T X W C) hm).wk fun σ H Q x => chain_t x
theorem dt_chain {op op' : CmpOp} {a b c : Expr} {ma mb mc : Ev G} {f g : Val → Val → Hh → Option (Val × Hh)} (ho : ∀ k T X W, Ctx G S k T X W → OpR X (compareOp op) (rOf X.K f)) (ho' : ∀ k T X W, Ctx G S k T X W → OpR X (compareOp op') (rOf X.K g))
    (ha : DE G S a ma) (hb : DE G S b mb) (hc : DE G S c mc) (hm : lastMarks [op, op'] [b, c] = false := by with_unfolding_all rfl) : DT G S (.Compare a [op, op'] [b, c] pos) (qVal (eChain f g ma mb mc)) := fun k T X W C =>
  (pt_chain (ho k T X W C) (ho' k T X W C) (ha k T X W C) (hb k T X W C) (hc k T X W C) hm).wk fun σ H Q x => val_tT (fun _ _ _ z => chain_t z) x
theorem tru_rel {K : PySem.W.Frag} {mp : List Addr} {H : Hp} {h : Hh} {v : Val} {x : V} {b : Bool} (R : HRel K mp H h) (r : RVal K mp H v x) (e : truB v h = some b) : TruV K x H b := by
  have seq : ∀ {v : Val} {x : V} {vs : List Val}, RVal K mp H v x → seqOf v h = some vs → TruV K x H (!vs.isEmpty) := fun {v x vs} r e => by
    obtain ⟨a, xs, rfl, hs, rs⟩ := seq_rel R r e
    have hl := rs.length
    have he : (!vs.isEmpty) = !xs.isEmpty := by
      cases vs <;> cases xs <;> simp at hl ⊢
    rw [he]
    rcases hs with hs | hs
    · exact .inl ⟨xs, hs, rfl⟩
    · exact .inr (.inl ⟨xs, hs, rfl⟩)
  unfold truB at e
  split at e
  · cases e; cases r with | d r => cases r; rfl
  · cases e; cases r with | d r => cases r; rfl
  · cases e; cases r with | d r => cases r; rfl
  · split at e <;> cases e
    rename_i hl
    cases r with | d r => cases r; exact ⟨hl, rfl⟩
  · split at e
    · rename_i vs e1
      cases e
      exact seq r (by unfold seqOf; simp [e1])
    · rename_i kvs e1
      cases e
      cases r with
      | r m =>
        obtain ⟨ks, o1, q1⟩ := R.obj m e1
        refine .inr (.inr ⟨ks, o1, ?_⟩)
        cases q1 <;> rfl
    · cases e
  · obtain ⟨vs, e1, e2⟩ := Option.map_eq_some_iff.mp e
    subst e2
    exact seq r e1
theorem dt_tru {e : Expr} {m : Ev G} (he : DE G S e m) (hw : ∀ env whole, isTrue e env whole = (do let v ← whole; standAt e.pos; holding [v] (truthy v)) := by intro _ _; rfl) : DT G S e (qTru m) := fun k T X W C => by
  refine (pt_truth (he k T X W C) (hw _)).wk fun σ H Q ⟨mp, ρ, h, R, E, q⟩ => ?_
  refine res_bnd R E q fun v y mp1 h1 H1 X1 R1 E1 r1 q1 => ?_
  split at q1
  · rename_i b e1
    exact ⟨b, tru_rel R1 r1 e1, q1 mp1 b H1 R1 .refl rfl⟩
  · exact q1.elim
theorem dt_not {e : Expr} {m : Tv G} (he : DT G S e m) : DT G S (.UnaryOp .Not e pos) (qNot m) := fun k T X W C => by
  refine (pt_not (he k T X W C)).wk fun σ H Q ⟨mp, ρ, h, R, E, q⟩ => ?_
  refine res_bnd R E q fun v y mp1 h1 H1 X1 R1 E1 r1 q1 => ?_
  cases r1
  exact q1 mp1 _ H1 R1 .refl rfl
theorem dt_w {e : Expr} {m : Tv G} (he : DW G S e m) : DT G S e m := fun k T X W C => (he k T X W C).pt
theorem dw_and1 {e : Expr} {m : Tv G} (he : DT G S e m) : DW G S (.BoolOp .And [e] pos) m := fun k T X W C => pw_and1 (he k T X W C)
theorem dw_or1 {e : Expr} {m : Tv G} (he : DT G S e m) : DW G S (.BoolOp .Or [e] pos) m := fun k T X W C => pw_or1 (he k T X W C)
theorem dw_and {a b : Expr} {rest : List Expr} {m n : Tv G} (ha : DT G S a m) (hb : DW G S (.BoolOp .And (b :: rest) pos) n) : DW G S (.BoolOp .And (a :: b :: rest) pos) (qAnd m n) := fun k T X W C => by
  refine (pw_and (ha k T X W C) (hb k T X W C)).wk fun σ H Q ⟨mp, ρ, h, R, E, q⟩ => ?_
  refine res_bnd R E q fun v y mp1 h1 H1 X1 R1 E1 r1 q1 => ?_
  cases r1
  cases v with
  | true => exact ⟨mp1, ρ, h1, R1, E1, q1⟩
  | false => exact q1 mp1 _ H1 R1 .refl rfl
theorem dw_or {a b : Expr} {rest : List Expr} {m n : Tv G} (ha : DT G S a m) (hb : DW G S (.BoolOp .Or (b :: rest) pos) n) : DW G S (.BoolOp .Or (a :: b :: rest) pos) (qOr m n) := fun k T X W C => by
  refine (pw_or (ha k T X W C) (hb k T X W C)).wk fun σ H Q ⟨mp, ρ, h, R, E, q⟩ => ?_
  refine res_bnd R E q fun v y mp1 h1 H1 X1 R1 E1 r1 q1 => ?_
  cases r1
  cases v with
  | true => exact q1 mp1 _ H1 R1 .refl rfl
  | false => exact ⟨mp1, ρ, h1, R1, E1, q1⟩
/-! ### and, or, not, if as values -/
def eAnd (m n : Ev G) : Ev G := fun T => bnd (m T) fun v ρ h => match v with
  | .d (.bl true) => n T ρ h
  | .d (.bl false) => .ok (.d (.bl false)) h
  | _ => .bad
def eOr (m n : Ev G) : Ev G := fun T => bnd (m T) fun v ρ h => match v with
  | .d (.bl true) => .ok (.d (.bl true)) h
  | .d (.bl false) => n T ρ h
  | _ => .bad
def eNot (m : Ev G) : Ev G := fun T => bnd (m T) fun v ρ h => match v with
  | .d (.bl b) => .ok (.d (.bl (!b))) h
  | _ => .bad
def eIf (t : Tv G) (m n : Ev G) : Ev G := fun T => bnd (t T) fun b ρ h => if b = true then m T ρ h else n T ρ h
theorem d_one {op} {e : Expr} {m : Ev G} (he : DE G S e m) : DE G S (.BoolOp op [e] pos) m := fun k T X W C => pe_one (he k T X W C)
theorem d_and {a b : Expr} {rest : List Expr} {m n : Ev G} (ha : DE G S a m) (hb : DE G S (.BoolOp .And (b :: rest) pos) n) : DE G S (.BoolOp .And (a :: b :: rest) pos) (eAnd m n) := fun k T X W C => by
  refine (pe_and (ha k T X W C) (hb k T X W C)).wk fun σ H Q ⟨mp, ρ, h, R, E, q⟩ => ?_
  refine res_bnd R E q fun v y mp1 h1 H1 X1 R1 E1 r1 q1 => ?_
  split at q1
  · cases r1 with | d r1 => cases r1; exact ⟨true, rfl, by rw [if_pos rfl]; exact ⟨mp1, ρ, h1, R1, E1, q1⟩⟩
  · cases r1 with | d r1 => cases r1; exact ⟨false, rfl, by rw [if_neg Bool.false_ne_true]; exact q1 mp1 _ H1 R1 .refl (.d (.bl _))⟩
  · exact q1.elim
theorem d_or {a b : Expr} {rest : List Expr} {m n : Ev G} (ha : DE G S a m) (hb : DE G S (.BoolOp .Or (b :: rest) pos) n) : DE G S (.BoolOp .Or (a :: b :: rest) pos) (eOr m n) := fun k T X W C => by
  refine (pe_or (ha k T X W C) (hb k T X W C)).wk fun σ H Q ⟨mp, ρ, h, R, E, q⟩ => ?_
  refine res_bnd R E q fun v y mp1 h1 H1 X1 R1 E1 r1 q1 => ?_
  split at q1
  · cases r1 with | d r1 => cases r1; exact ⟨true, rfl, by rw [if_pos rfl]; exact q1 mp1 _ H1 R1 .refl (.d (.bl _))⟩
  · cases r1 with | d r1 => cases r1; exact ⟨false, rfl, by rw [if_neg Bool.false_ne_true]; exact ⟨mp1, ρ, h1, R1, E1, q1⟩⟩
  · exact q1.elim
theorem d_not {e : Expr} {m : Ev G} (he : DE G S e m) : DE G S (.UnaryOp .Not e pos) (eNot m) := fun k T X W C => by
  refine (pe_not (he k T X W C)).wk fun σ H Q ⟨mp, ρ, h, R, E, q⟩ => ?_
  refine res_bnd R E q fun v y mp1 h1 H1 X1 R1 E1 r1 q1 => ?_
  split at q1
  · cases r1 with | d r1 => cases r1; exact ⟨_, rfl, q1 mp1 _ H1 R1 .refl (.d (.bl _))⟩
  · exact q1.elim
theorem d_if {c a b : Expr} {t : Tv G} {m n : Ev G} (hc : DT G S c t) (ha : DE G S a m) (hb : DE G S b n) : DE G S (.IfExp c a b pos) (eIf t m n) := fun k T X W C => by
  refine (pe_ifExp (hc k T X W C) (ha k T X W C) (hb k T X W C)).wk fun σ H Q ⟨mp, ρ, h, R, E, q⟩ => ?_
  refine res_bnd R E q fun v y mp1 h1 H1 X1 R1 E1 r1 q1 => ?_
  cases r1
  cases v with
  | true => exact ⟨mp1, ρ, h1, R1, E1, q1⟩
  | false => exact ⟨mp1, ρ, h1, R1, E1, q1⟩
/-- what an expression leaves behind is let go of -/
noncomputable def eGc (m : Ev G) : Ev G := fun T ρ h => gc h (m T ρ h)
theorem d_gc {e : Expr} {m : Ev G} (he : DE G S e m) : DE G S e (eGc m) := fun k T X W C =>
  (he k T X W C).wk fun σ H Q ⟨mp, ρ, h, R, E, q⟩ => ⟨mp, ρ, h, R, E, Res.gc R q⟩

/-! ### items, slices -/
def vIx (a b : Val) (h : Hh) : Option (Val × Hh) := match b with
  | .d (.int i) => (match a with
    | .d (.str z) => if z.length ≤ sizeLine then (atI z.cps.toList i).map fun c => (.d (.str ⟨#[c]⟩), h) else none
    | .r n => (match h[n]? with
      | some (.lst vs) => (atI vs i).map fun v => (v, h)
      | some (.dic kvs) => (dget kvs (.inl i)).map fun v => (v, h)
      | _ => none)
    | a => ((seqOf a h).bind fun vs => atI vs i).map fun v => (v, h))
  | .d (.str x) => (match a with
    | .r n => (match h[n]? with
      | some (.dic kvs) => (dget kvs (.inr x)).map fun v => (v, h)
      | _ => none)
    | _ => none)
  | _ => none
theorem at_rel {K : PySem.W.Frag} {mp : List Addr} {H : Hp} {vs : List Val} {xs : List V} {i : Int} {v : Val} (r : RVals K mp H vs xs) (e : atI vs i = some v) : ∃ y, atI xs i = some y ∧ RVal K mp H v y := by
  unfold atI at e ⊢
  rw [← r.length]
  obtain ⟨j, e1, e2⟩ := Option.bind_eq_some_iff.mp e
  obtain ⟨y, e3, q⟩ := r.get e2
  exact ⟨y, by rw [e1]; exact e3, q⟩
theorem ix_dict {X : Cx} (hu : X.A.units + 1 < cLine) : IxR X (fun x y H Q => ∃ a v, x = .ref a ∧ DGet H a y (some v) ∧ Q v H) := by
  intro value slice pins s σ H x y v u Q I rx ry ⟨a, w', ex, g, q⟩ hs
  subst ex
  obtain rfl : v = Value.ref a := rx
  exact tail_any (dict_typeIs I g) PySem.F.slot_dict_getitem.lookup (d_getItem hu I g ry fun w2 s3 I3 rw' => ⟨_, H, I3, rw', q⟩) hs
theorem ok_ix {X : Cx} (hu : X.A.units + 1 < cLine) : IxR X (rOf X.K vIx) := by
  intro value slice pins s σ H x y v u Q I rx ry ⟨mp, h, a, b, z, h', R, ra, rb, e, q⟩ hs
  have seq : ∀ {vs : List Val} {i : Int}, b = .d (.int i) → seqOf a h = some vs → (atI vs i).map (fun v => (v, h)) = some (z, h') → wpAny (model X.prog X.w) X.A (subscriptTail value slice v u) (EP X pins σ Q) X.xe s := fun {vs i} eb es e' => by
    clear e
    subst eb
    obtain ⟨p, xs, ex, hq, rs⟩ := seq_rel R ra es
    obtain ⟨v', e1, e2⟩ := Option.map_eq_some_iff.mp e'
    cases e2
    obtain ⟨y', e3, rz⟩ := at_rel rs e1
    cases rb with
    | d rb =>
      cases rb
      rcases hq with hq | hq
      · exact ix_list value slice pins s σ H x _ v u Q I rx ry ⟨p, xs, i, y', ex, rfl, hq, e3, q mp _ H R .refl rz⟩ hs
      · exact ix_tup value slice pins s σ H x _ v u Q I rx ry ⟨p, xs, i, y', ex, rfl, hq, e3, q mp _ H R .refl rz⟩ hs
  have dic : ∀ {n : Nat} {kvs : List (Key × Val)} {k : Key}, a = .r n → h[n]? = some (.dic kvs) → (∀ y, RVal X.K mp H b y → y = kV k) → (dget kvs k).map (fun v => (v, h)) = some (z, h') → wpAny (model X.prog X.w) X.A (subscriptTail value slice v u) (EP X pins σ Q) X.xe s := fun {n kvs k} ea en hk e' => by
    clear e
    subst ea
    cases ra with
    | r m =>
      obtain ⟨ks, o1, q1⟩ := R.obj m en
      obtain ⟨v', e1, e2⟩ := Option.map_eq_some_iff.mp e'
      cases e2
      obtain ⟨y', e3, rz⟩ := (kv_find k q1).1 _ e1
      refine ix_dict hu value slice pins s σ H _ y v u Q I rx ry ⟨_, y', rfl, ?_, q mp _ H R .refl rz⟩ hs
      rw [hk y rb, ← e3]
      exact .k o1
  unfold vIx at e
  split at e
  · rename_i i
    split at e
    · rename_i z'
      split at e
      · rename_i hl
        obtain ⟨c, e1, e2⟩ := Option.map_eq_some_iff.mp e
        cases e2
        cases ra with
        | d ra =>
          cases ra
          cases rb with
          | d rb =>
            cases rb
            exact ix_str value slice pins s σ H _ _ v u Q I rx ry ⟨z', i, c, rfl, rfl, hl, e1, q mp _ H R .refl (.d (.str _))⟩ hs
      · cases e
    · rename_i n
      split at e
      · rename_i vs en
        exact seq rfl (by unfold seqOf; simp [en]) e
      · rename_i kvs en
        exact dic (k := .inl i) rfl en (fun y r => by cases r with | d r => cases r; rfl) e
      · cases e
    · rename_i a' _ _
      obtain ⟨v', e1, e2⟩ := Option.map_eq_some_iff.mp e
      obtain ⟨vs, e3, e4⟩ := Option.bind_eq_some_iff.mp e1
      exact seq rfl e3 (by rw [e4]; exact congrArg some e2)
  · rename_i x'
    split at e
    · rename_i n
      split at e
      · rename_i kvs en
        exact dic (k := .inr x') rfl en (fun y r => by cases r with | d r => cases r; rfl) e
      · cases e
    · cases e
  · cases e
theorem Ctx.un {k : Nat} {T : Tab G} {X : Cx} {W : WX} (C : Ctx G S k T X W) : X.A.units + 65 < cLine := by
  have := C.room.un
  omega
theorem d_ix {a b : Expr} {ma mb : Ev G} (ha : DE G S a ma) (hb : DE G S b mb) (hs : PlainIx b := by intro _ _; rfl) : DE G S (.Subscript a b pos) (o2 vIx ma mb) := fun k T X W C =>
  (pe_ix (ok_ix (by have := C.un; omega)) (ha k T X W C) (hb k T X W C) hs).wk fun σ H Q x => o2_tOp x

/-- parts of a slice -/
abbrev Pv (G : Gm) := Tab G → Env → Hh → R (Option Int)
def pNo : Pv G := fun _ _ h => .ok none h
def pSo (m : Ev G) : Pv G := fun T => bnd (m T) fun v _ h => match v with
  | .d (.int i) => .ok (some i) h
  | _ => .bad
abbrev rP : List Addr → Hp → Option Int → Option Int → Prop := fun _ _ b c => c = b
def DPt (G : Gm) (S : Sx) (e : Option Expr) (m : Pv G) : Prop := ∀ k T X W, Ctx G S k T X W → PO X e (Lft X.K rP W (m T))
theorem _root_.L2.PO.wk {X : Cx} {e : Option Expr} {t t' : TO} (x : PO X e t) (h : ∀ σ H Q, t' σ H Q → t σ H Q) : PO X e t' := ⟨fun pins s σ H Q I q => x.run pins s σ H Q I (h σ H Q q)⟩
theorem dp_no : DPt G S none (pNo (G := G)) := fun k T X W C => po_none.wk fun σ H Q ⟨mp, ρ, h, R, E, q⟩ => q mp none H R .refl rfl
theorem dp_so {e : Expr} {m : Ev G} (he : DE G S e m) : DPt G S (some e) (pSo m) := fun k T X W C => by
  refine (po_some (he k T X W C)).wk fun σ H Q ⟨mp, ρ, h, R, E, q⟩ => ?_
  refine res_bnd R E q fun v y mp1 h1 H1 X1 R1 E1 r1 q1 => ?_
  split at q1
  · cases r1 with | d r1 => cases r1; exact ⟨_, rfl, q1 mp1 _ H1 R1 .refl rfl⟩
  · exact q1.elim
def cutL {α : Type} (xs : List α) (lo hi : Option Int) : List α := (xs.drop (HT.sIx xs.length 0 lo)).take (HT.sIx xs.length xs.length hi - HT.sIx xs.length 0 lo)
def vSl (a : Val) (lo hi : Option Int) (h : Hh) : Option (Val × Hh) := match a with
  | .d (.str z) => if z.length ≤ sizeLine then some (.d (.str (cutS z lo hi)), h) else none
  | .d (.tup ds) => some (.d (.tup (cutL ds lo hi)), h)
  | .fz ds => some (.r h.length, h ++ [.lst ((cutL ds lo hi).map .d)])
  | .r n => (match h[n]? with
    | some (.lst vs) => some (.r h.length, h ++ [.lst (cutL vs lo hi)])
    | _ => none)
  | _ => none
theorem cut_rel {K : PySem.W.Frag} {mp : List Addr} {H : Hp} {vs : List Val} {xs : List V} (lo hi : Option Int) (r : RVals K mp H vs xs) : RVals K mp H (cutL vs lo hi) (cutV xs lo hi) := by
  unfold cutL cutV
  rw [← r.length]
  exact (r.drop _).take _
theorem cutL_map {α β : Type} (f : α → β) (xs : List α) (lo hi : Option Int) : cutL (xs.map f) lo hi = (cutL xs lo hi).map f := by
  unfold cutL
  rw [List.length_map, List.map_take, List.map_drop]
theorem cut_whole {α : Type} {xs : List α} {lo hi : Option Int} (h : HT.sIx xs.length 0 lo = 0 ∧ HT.sIx xs.length xs.length hi = xs.length) : cutL xs lo hi = xs := by
  unfold cutL
  rw [h.1, h.2]
  simp
def rSlOf (K : PySem.W.Frag) : V → Option Int → Option Int → Hp → VK → Prop := fun x lo hi H Q => ∃ mp h a v h', HRel K mp H h ∧ RVal K mp H a x ∧ vSl a lo hi h = some (v, h') ∧
  ∀ mp' z H', HRel K mp' H' h' → Ext K mp H mp' H' → RVal K mp' H' v z → Q z H'
theorem ok_sl {X : Cx} : SlR X (rSlOf X.K) := by
  intro pins s σ H x v vl vu lo hi sl Q I rx hs pl pu ⟨mp, h, a, z, h', R, ra, e, q⟩
  unfold vSl at e
  split at e
  · split at e <;> cases e
    rename_i hl
    cases ra with | d ra => cases ra; exact sl_str pins s σ H _ v vl vu lo hi sl Q I rx hs pl pu ⟨_, rfl, hl, q mp _ H R .refl (.d (.str _))⟩
  · rename_i ds
    cases e
    cases ra with
    | d ra =>
      cases ra with
      | tup s1 r1 =>
        rename_i a xs
        refine sl_tupA pins s σ H _ v vl vu lo hi sl Q I rx hs pl pu ⟨a, xs, rfl, s1, fun hw => ?_, fun _ p np => ?_⟩
        · rw [← r1.length] at hw
          rw [cut_whole hw] at q
          exact q mp _ H R .refl (.d (.tup s1 r1))
        · obtain ⟨R2, X2⟩ := R.new (.tup (cutV xs lo hi)) np
          refine q mp _ _ R2 X2 (.d (.tup (.of upd_same) ?_))
          have z := cut_rel lo hi (r1.vals (mp := mp))
          rw [cutL_map] at z
          exact (z.data).mono X2.tup
  · rename_i ds
    cases e
    cases ra with
    | fz s1 r1 =>
      refine sl_list pins s σ H _ v vl vu lo hi sl Q I rx hs pl pu ⟨_, _, rfl, s1.sq, fun p np => ?_⟩
      have z := cut_rel lo hi (r1.vals (mp := mp))
      rw [cutL_map] at z
      obtain ⟨R2, X2⟩ := R.alloc (o := .lst ((cutL ds lo hi).map .d)) (u := .lst _) np ⟨_, upd_same, z.mono (ext_num np)⟩
      exact q _ _ _ R2 X2 (.r (by rw [← R.len]; simp))
  · rename_i n
    split at e
    · rename_i vs en
      cases e
      cases ra with
      | r m =>
        obtain ⟨xs, o1, q1⟩ := R.obj m en
        refine sl_list pins s σ H _ v vl vu lo hi sl Q I rx hs pl pu ⟨_, _, rfl, .of o1, fun p np => ?_⟩
        obtain ⟨R2, X2⟩ := R.alloc (o := .lst (cutL vs lo hi)) (u := .lst _) np ⟨_, upd_same, (cut_rel lo hi q1).mono (ext_num np)⟩
        exact q _ _ _ R2 X2 (.r (by rw [← R.len]; simp))
    · cases e
  · cases e
def eSl (m : Ev G) (lo hi : Pv G) : Ev G := fun T => bnd (m T) fun v => bnd (lo T) fun l => bnd (hi T) fun u _ h => match vSl v l u h with
  | some (v, h') => .ok v h'
  | none => .bad
theorem d_sl {e : Expr} {lo hi : Option Expr} {m : Ev G} {l u : Pv G} {p2 : Pos} (he : DE G S e m) (hl : DPt G S lo l) (hu : DPt G S hi u) : DE G S (.Subscript e (.Slice lo hi none p2) pos) (eSl m l u) := fun k T X W C => by
  refine (pe_slice ok_sl (he k T X W C) (hl k T X W C) (hu k T X W C)).wk fun σ H Q ⟨mp, ρ, h, R, E, q⟩ => ?_
  refine res_bnd R E q fun v y mp1 h1 H1 X1 R1 E1 r1 q1 => ?_
  refine res_bnd R1 E1 q1 fun l' y2 mp2 h2 H2 X2 R2 E2 r2 q2 => ?_
  refine res_bnd R2 E2 q2 fun u' y3 mp3 h3 H3 X3 R3 E3 r3 q3 => ?_
  cases r2
  cases r3
  split at q3
  · rename_i z h' e
    exact ⟨mp3, h3, v, z, h', R3, r1.mono (X2.trans X3), e, q3⟩
  · exact q3.elim
end
end Dq
namespace Dq
open PySem PySem.Spec PyProof.Rows L2

/-! ### what is walked -/
/-- the items, and what must stay so -/
structure Itr' where
  vs : List Val
  chk : Hh → Prop
def rI (K : PySem.W.Frag) : List Addr → Hp → Itr' → It → Prop := fun mp0 H0 it J => ∀ i mp h H, Ext K mp0 H0 mp H → HRel K mp H h → it.chk h →
  (∀ v, it.vs[i]? = some v → J.go i H ∧ ∀ x H', J.yld i H x H' → HRel K mp H' h ∧ Ext K mp H mp H' ∧ RVal K mp H' v x) ∧ (it.vs.length ≤ i → J.stop i H)
section
variable {G : Gm} {S : Sx} {pos : Pos}
abbrev Iv (G : Gm) := Tab G → Env → Hh → R Itr'
def DI (G : Gm) (S : Sx) (tg e : Expr) (m : Iv G) : Prop := ∀ k T X W, Ctx G S k T X W → PI X tg e (Lft X.K (rI X.K) W (m T))
theorem _root_.L2.PI.wk {X : Cx} {tg e : Expr} {t t' : TI} (x : PI X tg e t) (h : ∀ σ H Q, t' σ H Q → t σ H Q) : PI X tg e t' := ⟨fun pins s σ H Q I q => x.run pins s σ H Q I (h σ H Q q)⟩
def signs (z : Str) : List Val := z.cps.toList.map fun c => .d (.str ⟨#[c]⟩)
def itOf (v : Val) (h : Hh) : Option Itr' := match v with
  | .d (.str z) => some ⟨signs z, fun _ => True⟩
  | .r n => (match h[n]? with
    | some (.lst vs) => some ⟨vs, fun h' => h'[n]? = some (.lst vs)⟩
    | _ => none)
  | v => (seqOf v h).map fun vs => ⟨vs, fun _ => True⟩
def iSeq (m : Ev G) : Iv G := fun T => bnd (m T) fun v _ h => match itOf v h with
  | some it => .ok it h
  | none => .bad
theorem tup_it {K : PySem.W.Frag} {mp : List Addr} {H : Hp} {a : Addr} {xs : List V} {vs : List Val} (s : SqT K H a xs) (r : RVals K mp H vs xs) (inj : ∀ H' ys, Ext K mp H mp H' → SqT K H' a ys → True) : rI K mp H ⟨vs, fun _ => True⟩ (Itt K a) := by
  intro i mp1 h H1 E R _
  have s1 := E.tup _ _ s
  have r1 := r.mono E
  refine ⟨fun v e => ?_, fun hl => ⟨xs, s1, by rw [← r.length]; exact hl⟩⟩
  obtain ⟨x, ex, rx⟩ := r1.get e
  refine ⟨⟨xs, x, s1, ex⟩, fun y H' ⟨eH, hy⟩ => ?_⟩
  subst eH
  have := hy xs s1
  rw [ex] at this
  cases this
  exact ⟨R, .refl, rx⟩
theorem fz_it {K : PySem.W.Frag} {mp : List Addr} {H : Hp} {a : Addr} {xs : List V} {vs : List Val} (s : Fz K mp H a xs) (r : RVals K mp H vs xs) : rI K mp H ⟨vs, fun _ => True⟩ (Itl K a) := by
  intro i mp1 h H1 E R _
  have s1 := (s.mono E).sq
  have r1 := r.mono E
  refine ⟨fun v e => ?_, fun hl => ⟨xs, s1, by rw [← r.length]; exact hl⟩⟩
  obtain ⟨x, ex, rx⟩ := r1.get e
  refine ⟨⟨xs, x, s1, ex⟩, fun y H' ⟨eH, hy⟩ => ?_⟩
  subst eH
  have := hy xs s1
  rw [ex] at this
  cases this
  exact ⟨R, .refl, rx⟩
theorem lst_it {K : PySem.W.Frag} {mp : List Addr} {H : Hp} {a : Addr} {n : Nat} {vs : List Val} (m : mp[n]? = some a) : rI K mp H ⟨vs, fun h' => h'[n]? = some (.lst vs)⟩ (Itl K a) := by
  intro i mp1 h H1 E R hc
  obtain ⟨xs, o1, r1⟩ := R.obj (pre_get E.pre m) hc
  have s1 : SqL K H1 a xs := .of o1
  refine ⟨fun v e => ?_, fun hl => ⟨xs, s1, by rw [← r1.length]; exact hl⟩⟩
  obtain ⟨x, ex, rx⟩ := r1.get e
  refine ⟨⟨xs, x, s1, ex⟩, fun y H' ⟨eH, hy⟩ => ?_⟩
  subst eH
  have := hy xs s1
  rw [ex] at this
  cases this
  exact ⟨R, .refl, rx⟩
theorem str_it {K : PySem.W.Frag} {mp : List Addr} {H : Hp} (z : Str) : rI K mp H ⟨signs z, fun _ => True⟩ (Its z) := by
  intro i mp1 h H1 E R _
  have hsz : (signs z).length = z.cps.size := by unfold signs; rw [List.length_map, Array.length_toList]
  refine ⟨fun v e => ?_, fun hl => by show z.cps.size ≤ i; rw [← hsz]; exact hl⟩
  unfold signs at e
  rw [List.getElem?_map] at e
  obtain ⟨c, ec, ev⟩ := Option.map_eq_some_iff.mp e
  subst ev
  have hi : i < z.cps.size := by
    have := (List.getElem?_eq_some_iff.mp ec).1
    rwa [Array.length_toList] at this
  refine ⟨hi, fun y H' ⟨eH, c', hc', ey⟩ => ?_⟩
  subst eH ey
  rw [Array.getElem?_toList] at ec
  rw [ec] at hc'
  cases hc'
  exact ⟨R, .refl, .d (.str _)⟩
/-- the road is known by what the source gives -/
theorem di_seq {tg e : Expr} {m : Ev G} (he : DE G S e m) : DI G S tg e (iSeq m) := fun k T X W C => ⟨fun pins s σ H Q I ⟨mp, ρ, h, R, E, q⟩ => by
  have p := he k T X W C
  unfold iSeq bnd at q
  cases em : m T ρ h with
  | bad => rw [em] at q; exact q.elim
  | exc c h' =>
    rw [em] at q
    exact (pi_list p).run pins s σ H Q I ⟨mp, ρ, h, R, E, by rw [em]; exact q⟩
  | ok v h1 =>
    rw [em] at q
    cases ei : itOf v h1 with
    | none => simp only [ei] at q; exact q.elim
    | some it =>
      simp only [ei] at q
      have asList : (∀ mp1 y H1, HRel X.K mp1 H1 h1 → Ext X.K mp H mp1 H1 → RVal X.K mp1 H1 v y → ∃ a, y = .ref a ∧ (∃ xs, SqL X.K H1 a xs) ∧ rI X.K mp1 H1 it (Itl X.K a)) → wpAny (model X.prog X.w) X.A (eval e X.env) (fun v s1 => wpAny (model X.prog X.w) X.A (pyIter v) (PIE X pins σ tg Q) X.xe s1) X.xe s := fun f =>
        (pi_list p).run pins s σ H Q I ⟨mp, ρ, h, R, E, by
          rw [em]
          exact fun mp1 y H1 R1 X1 r1 => let ⟨a, e1, e2, e3⟩ := f mp1 y H1 R1 X1 r1; ⟨a, e1, e2, q mp1 _ H1 R1 X1 e3⟩⟩
      have asTup : (∀ mp1 y H1, HRel X.K mp1 H1 h1 → Ext X.K mp H mp1 H1 → RVal X.K mp1 H1 v y → ∃ a, y = .ref a ∧ (∃ xs, SqT X.K H1 a xs) ∧ rI X.K mp1 H1 it (Itt X.K a)) → wpAny (model X.prog X.w) X.A (eval e X.env) (fun v s1 => wpAny (model X.prog X.w) X.A (pyIter v) (PIE X pins σ tg Q) X.xe s1) X.xe s := fun f =>
        (pi_tup p).run pins s σ H Q I ⟨mp, ρ, h, R, E, by
          rw [em]
          exact fun mp1 y H1 R1 X1 r1 => let ⟨a, e1, e2, e3⟩ := f mp1 y H1 R1 X1 r1; ⟨a, e1, e2, q mp1 _ H1 R1 X1 e3⟩⟩
      unfold itOf at ei
      split at ei
      · rename_i z
        cases ei
        refine (pi_str p).run pins s σ H Q I ⟨mp, ρ, h, R, E, ?_⟩
        rw [em]
        intro mp1 y H1 R1 X1 r1
        cases r1 with | d r1 => cases r1; exact ⟨z, rfl, q mp1 _ H1 R1 X1 (str_it z)⟩
      · rename_i n
        split at ei
        · rename_i vs en
          cases ei
          refine asList fun mp1 y H1 R1 X1 r1 => ?_
          cases r1 with
          | r m1 =>
            obtain ⟨xs, o1, _⟩ := R1.obj m1 en
            exact ⟨_, rfl, ⟨xs, .of o1⟩, lst_it m1⟩
        · cases ei
      · obtain ⟨vs, e1, e2⟩ := Option.map_eq_some_iff.mp ei
        subst e2
        unfold seqOf at e1
        split at e1
        · cases e1
          refine asTup fun mp1 y H1 R1 X1 r1 => ?_
          cases r1 with | d r1 => cases r1 with | tup s r => exact ⟨_, rfl, ⟨_, s⟩, tup_it s r.vals fun _ _ _ _ => trivial⟩
        · cases e1
          refine asTup fun mp1 y H1 R1 X1 r1 => ?_
          cases r1 with | t s r => exact ⟨_, rfl, ⟨_, s⟩, tup_it s r fun _ _ _ _ => trivial⟩
        · cases e1
          refine asList fun mp1 y H1 R1 X1 r1 => ?_
          cases r1 with | fz s r => exact ⟨_, rfl, ⟨_, s.sq⟩, fz_it s r.vals⟩
        · exact (‹∀ n : Nat, Val.r _ = Val.r n → False› _ rfl).elim
        · cases e1⟩
/-- range -/
def rngV (lo : Int) (c : Int) (n : Nat) : List Val := (List.range n).map fun i => .d (.int (lo + (i : Nat) * c))
def iRange (f : List Val → Option (Int × Int × Nat)) (m : Av G) : Iv G := fun T => bnd (m T) fun vs _ h => match f vs with
  | some (lo, c, n) => .ok ⟨rngV lo c n, fun _ => True⟩ h
  | none => .bad
def rg1 : List Val → Option (Int × Int × Nat)
  | [.d (.int j)] => if -(2 ^ 62) ≤ j ∧ j < 2 ^ 62 then some (0, 1, j.toNat) else none
  | _ => none
def rg2 : List Val → Option (Int × Int × Nat)
  | [.d (.int i), .d (.int j)] => if -(2 ^ 62) ≤ i ∧ i < 2 ^ 62 ∧ -(2 ^ 62) ≤ j ∧ j < 2 ^ 62 then some (i, 1, (j - i).toNat) else none
  | _ => none
/-- downward by ones -/
def rg3 : List Val → Option (Int × Int × Nat)
  | [.d (.int i), .d (.int j), .d (.int c)] => if c = -1 ∧ -(2 ^ 62) ≤ i ∧ i < 2 ^ 62 ∧ -(2 ^ 62) ≤ j ∧ j < 2 ^ 62 then some (i, -1, (i - j).toNat) else none
  | _ => none
theorem rng_it {K : PySem.W.Frag} {mp : List Addr} {H : Hp} (lo c : Int) (n : Nat) : rI K mp H ⟨rngV lo c n, fun _ => True⟩ (Itc lo c n) := by
  intro i mp1 h H1 E R _
  have hsz : (rngV lo c n).length = n := by unfold rngV; rw [List.length_map, List.length_range]
  refine ⟨fun v e => ?_, fun hl => by show n ≤ i; rw [← hsz]; exact hl⟩
  unfold rngV at e
  rw [List.getElem?_map] at e
  obtain ⟨j, ec, ev⟩ := Option.map_eq_some_iff.mp e
  obtain ⟨hi, ej⟩ := List.getElem?_eq_some_iff.mp ec
  rw [List.getElem_range] at ej
  subst ej ev
  rw [List.length_range] at hi
  refine ⟨hi, fun y H' ⟨eH, ey⟩ => ?_⟩
  subst eH ey
  exact ⟨R, .refl, .d (.int _)⟩
theorem rng_it1 {K : PySem.W.Frag} {mp : List Addr} {H : Hp} (lo : Int) (n : Nat) : rI K mp H ⟨rngV lo 1 n, fun _ => True⟩ (Itr lo n) := by
  intro i mp1 h H1 E R _
  obtain ⟨z1, z2⟩ := rng_it (K := K) (mp := mp) (H := H) lo 1 n i mp1 h H1 E R trivial
  refine ⟨fun v e => ?_, z2⟩
  obtain ⟨g, y⟩ := z1 v e
  exact ⟨g, fun x H' ⟨e1, e2⟩ => y x H' ⟨e1, by rw [e2, Int.mul_one]⟩⟩
theorem di_rg1 {tg a : Expr} {m : Av G} {p : Pos} (ha : DA G S [a] m) (hg : GlS S "range" := by rfl) (hm : ("range" : Str) ∈ G.blt := by decide +kernel) (hs : ∀ env, starEach [a] env = [(false, eval a env)] := by intro _; rfl) : DI G S tg (.Call (.Name "range" p) [a] [] pos) (iRange rg1 m) := fun k T X W C => by
  refine (pi_range1 (C.gl hg) (C.g.bl _ hm) (ha k T X W C) (hs _)).wk fun σ H Q ⟨mp, ρ, h, R, E, q⟩ => ?_
  refine res_bnd R E q fun v y mp1 h1 H1 X1 R1 E1 r1 q1 => ?_
  split at q1
  · rename_i lo c n e
    unfold rg1 at e
    split at e
    · split at e <;> cases e
      rename_i hc
      cases r1 with
      | cons r1 r2 =>
        cases r2
        cases r1 with | d r1 => cases r1; exact ⟨_, rfl, hc.1, hc.2, q1 mp1 _ H1 R1 .refl (rng_it1 _ _)⟩
    · cases e
  · exact q1.elim
theorem di_rg2 {tg a b : Expr} {m : Av G} {p : Pos} (ha : DA G S [a, b] m) (hg : GlS S "range" := by rfl) (hm : ("range" : Str) ∈ G.blt := by decide +kernel) (hs : ∀ env, starEach [a, b] env = [(false, eval a env), (false, eval b env)] := by intro _; rfl) (hs2 : ∀ env, starEach [b] env = [(false, eval b env)] := by intro _; rfl) :
    DI G S tg (.Call (.Name "range" p) [a, b] [] pos) (iRange rg2 m) := fun k T X W C => by
  refine (pi_range2 (C.gl hg) (C.g.bl _ hm) (ha k T X W C) (hs _) (hs2 _)).wk fun σ H Q ⟨mp, ρ, h, R, E, q⟩ => ?_
  refine res_bnd R E q fun v y mp1 h1 H1 X1 R1 E1 r1 q1 => ?_
  split at q1
  · rename_i lo c n e
    unfold rg2 at e
    split at e
    · split at e <;> cases e
      rename_i hc
      cases r1 with
      | cons r1 r2 =>
        cases r2 with
        | cons r2 r3 =>
          cases r3
          cases r1 with | d r1 => cases r1; cases r2 with | d r2 => cases r2; exact ⟨_, _, rfl, hc, q1 mp1 _ H1 R1 .refl (rng_it1 _ _)⟩
    · cases e
  · exact q1.elim
theorem di_rg3 {tg a b c : Expr} {m : Av G} {p : Pos} (ha : DA G S [a, b, c] m) (hg : GlS S "range" := by rfl) (hm : ("range" : Str) ∈ G.blt := by decide +kernel) (hs : ∀ env, starEach [a, b, c] env = (false, eval a env) :: starEach [b, c] env := by intro _; rfl) (hpl : ∀ env, (backTo pos (starEach [b, c] env)).any (·.1) = false := by intro _; rfl) :
    DI G S tg (.Call (.Name "range" p) [a, b, c] [] pos) (iRange rg3 m) := fun k T X W C => by
  refine (pi_range3 (C.gl hg) (C.g.bl _ hm) (ha k T X W C) (hs _) (hpl _)).wk fun σ H Q ⟨mp, ρ, h, R, E, q⟩ => ?_
  refine res_bnd R E q fun v y mp1 h1 H1 X1 R1 E1 r1 q1 => ?_
  split at q1
  · rename_i lo c n e
    unfold rg3 at e
    split at e
    · split at e <;> cases e
      rename_i hc
      obtain ⟨rfl, hc⟩ := hc
      cases r1 with
      | cons r1 r2 =>
        cases r2 with
        | cons r2 r3 =>
          cases r3 with
          | cons r3 r4 =>
            cases r4
            cases r1 with | d r1 => cases r1; cases r2 with | d r2 => cases r2; cases r3 with | d r3 => cases r3; exact ⟨_, _, _, _, rfl, RgC.neg hc.1 hc.2.1 hc.2.2.1 hc.2.2.2, q1 mp1 _ H1 R1 .refl (rng_it _ _ _)⟩
    · cases e
  · exact q1.elim
/-- zip of two sequences of one kind: its target is a written tuple -/
def tupOf : Val → Option (List Val)
  | .d (.tup ds) => some (ds.map .d)
  | .t vs => some vs
  | _ => none
theorem tup_rel {K : PySem.W.Frag} {mp : List Addr} {H : Hp} {v : Val} {x : V} {vs : List Val} (r : RVal K mp H v x) (e : tupOf v = some vs) : ∃ a xs, x = .ref a ∧ SqT K H a xs ∧ RVals K mp H vs xs := by
  unfold tupOf at e
  split at e
  · cases e
    cases r with | d r => cases r with | tup s r => exact ⟨_, _, rfl, s, r.vals⟩
  · cases e
    cases r with | t s r => exact ⟨_, _, rfl, s, r⟩
  · cases e
def zipV (vs ws : List Val) : List Val := (vs.zip ws).map fun p => mkTup [p.1, p.2]
theorem zipV_get {vs ws : List Val} {i : Nat} {u : Val} (e : (zipV vs ws)[i]? = some u) : ∃ v w, vs[i]? = some v ∧ ws[i]? = some w ∧ u = mkTup [v, w] := by
  unfold zipV at e
  rw [List.getElem?_map] at e
  obtain ⟨p, e1, e2⟩ := Option.map_eq_some_iff.mp e
  rw [List.getElem?_zip_eq_some] at e1
  exact ⟨p.1, p.2, e1.1, e1.2, e2.symm⟩
def zipB (v w : Val) (h : Hh) : Option Itr' := match v, w with
  | .r n, .r m => (match h[n]?, h[m]? with
    | some (.lst vs), some (.lst ws) => some ⟨zipV vs ws, fun h' => h'[n]? = some (.lst vs) ∧ h'[m]? = some (.lst ws)⟩
    | _, _ => none)
  | v, w => (match tupOf v, tupOf w with
    | some vs, some ws => some ⟨zipV vs ws, fun _ => True⟩
    | _, _ => none)
def iZipD (m : Av G) : Iv G := fun T => bnd (m T) fun vs _ h => match vs with
  | [v, w] => (match zipB v w h with
    | some it => .ok it h
    | none => .bad)
  | _ => .bad
theorem di_zip {e e2 : Expr} {elts : List Expr} {kk : Nat} {tpos p : Pos} {m : Av G} (ha : DA G S [e, e2] m) (hg : GlS S "zip" := by rfl) (hm : ("zip" : Str) ∈ G.blt := by decide +kernel)
    (hs : ∀ env, starEach [e, e2] env = (false, eval e env) :: starEach [e2] env := by intro _; rfl) (hpl : ∀ env, (backTo pos (starEach [e2] env)).any (·.1) = false := by intro _; rfl) : DI G S (.Tuple elts kk tpos) (.Call (.Name "zip" p) [e, e2] [] pos) (iZipD m) := fun k T X W C => by
  refine (RZ.pi_zipA (C.gl hg) (C.g.bl _ hm) (ha k T X W C) (hs _) (hpl _)).wk fun σ H Q ⟨mp, ρ, h, R, E, q⟩ => ?_
  refine res_bnd R E q fun v y mp1 h1 H1 X1 R1 E1 r1 q1 => ?_
  split at q1
  · rename_i v w
    split at q1
    · rename_i it e
      cases r1 with
      | cons ra rb =>
        cases rb with
        | cons rb rn =>
          cases rn
          unfold zipB at e
          split at e
          · rename_i n m'
            split at e
            · rename_i vs ws en em
              cases e
              cases ra with
              | r ma =>
                cases rb with
                | r mb =>
                  obtain ⟨xs, o1, q2⟩ := R1.obj ma en
                  obtain ⟨ys, o2, q3⟩ := R1.obj mb em
                  refine ⟨_, _, xs, ys, rfl, .inl ⟨.of o1, .of o2, q1 mp1 _ H1 R1 .refl ?_⟩⟩
                  intro i mp2 h2 H2 E2 R2 ⟨hc1, hc2⟩
                  obtain ⟨xs', o1', q2'⟩ := R2.obj (pre_get E2.pre ma) hc1
                  obtain ⟨ys', o2', q3'⟩ := R2.obj (pre_get E2.pre mb) hc2
                  have s1 : SqL X.K H2 _ xs' := .of o1'
                  have s2 : SqL X.K H2 _ ys' := .of o2'
                  refine ⟨fun u eu => ?_, fun hl => ⟨xs', ys', s1, s2, ?_⟩⟩
                  · obtain ⟨v, w, ev, ew, rfl⟩ := zipV_get eu
                    obtain ⟨x, ex, rx⟩ := q2'.get ev
                    obtain ⟨z, ez, rz⟩ := q3'.get ew
                    refine ⟨⟨_, _, x, z, s1, s2, ex, ez⟩, ?_⟩
                    rintro _ _ ⟨Tp, x', z', rfl, np, rfl, hx, hz⟩
                    have e1 := hx _ s1
                    have e2 := hz _ s2
                    rw [ex] at e1; cases e1
                    rw [ez] at e2; cases e2
                    obtain ⟨R3, X3⟩ := R2.new (.tup [x, z]) np
                    exact ⟨R3, X3, mkTup_rel (.of upd_same) (.cons (rx.mono X3) (.cons (rz.mono X3) .nil))⟩
                  · simp only [zipV, List.length_map, List.length_zip, q2'.length, q3'.length] at hl
                    omega
            · cases e
          · split at e
            · rename_i vs ws ev ew
              cases e
              obtain ⟨a, xs, rfl, s1, q2⟩ := tup_rel ra ev
              obtain ⟨b, ys, rfl, s2, q3⟩ := tup_rel rb ew
              refine ⟨_, _, xs, ys, rfl, .inr ⟨s1, s2, q1 mp1 _ H1 R1 .refl ?_⟩⟩
              intro i mp2 h2 H2 E2 R2 _
              have s1 := E2.tup _ _ s1
              have s2 := E2.tup _ _ s2
              have q2' := q2.mono E2
              have q3' := q3.mono E2
              refine ⟨fun u eu => ?_, fun hl => ⟨xs, ys, s1, s2, ?_⟩⟩
              · obtain ⟨v, w, ev, ew, rfl⟩ := zipV_get eu
                obtain ⟨x, ex, rx⟩ := q2'.get ev
                obtain ⟨z, ez, rz⟩ := q3'.get ew
                refine ⟨⟨_, _, x, z, s1, s2, ex, ez⟩, ?_⟩
                rintro _ _ ⟨Tp, x', z', rfl, np, rfl, hx, hz⟩
                have e1 := hx _ s1
                have e2 := hz _ s2
                rw [ex] at e1; cases e1
                rw [ez] at e2; cases e2
                obtain ⟨R3, X3⟩ := R2.new (.tup [x, z]) np
                exact ⟨R3, X3, mkTup_rel (.of upd_same) (.cons (rx.mono X3) (.cons (rz.mono X3) .nil))⟩
              · simp only [zipV, List.length_map, List.length_zip, q2'.length, q3'.length] at hl
                omega
            · cases e
    · exact q1.elim
  · exact q1.elim
end
end Dq
namespace Dq
open PySem PySem.Spec PyProof.Rows L2

/-! ### targets -/
def wipeE (ρ : Env) : List Nat → Env
  | [] => ρ
  | v :: vs => (wipeE ρ vs).set v none
theorem ERel.setN {K : PySem.W.Frag} {mp : List Addr} {H : Hp} {ρ : Env} {σ : L2.St} (r : ERel K mp H ρ σ) (i : Nat) : ERel K mp H (ρ.set i none) (σ.set i none) := by
  refine ⟨by rw [List.length_set, List.length_set]; exact r.1, fun j w e => ?_⟩
  by_cases hj : i = j
  · subst hj
    by_cases hl : i < ρ.length
    · rw [List.getElem?_set_self hl] at e
      cases e
    · rw [List.getElem?_eq_none (by rw [List.length_set]; omega)] at e
      cases e
  · rw [List.getElem?_set_ne hj] at e
    obtain ⟨y, e1, q1⟩ := r.2 j w e
    exact ⟨y, by rw [List.getElem?_set_ne hj]; exact e1, q1⟩
theorem ERel.wipe {K : PySem.W.Frag} {mp : List Addr} {H : Hp} {ρ : Env} {σ : L2.St} (r : ERel K mp H ρ σ) : ∀ vs : List Nat, ERel K mp H (wipeE ρ vs) (L2.wipe σ vs)
  | [] => r
  | v :: vs => (ERel.wipe r vs).setN v
theorem wipe_set {σ : L2.St} {i : Nat} {x : Option V} : ∀ vs : List Nat, L2.wipe (σ.set i x) vs = if i ∈ vs then L2.wipe σ vs else (L2.wipe σ vs).set i x
  | [] => by simp [L2.wipe]
  | v :: vs => by
    unfold L2.wipe
    rw [wipe_set vs]
    by_cases hv : i = v
    · subst hv
      rw [if_pos (List.mem_cons_self ..)]
      by_cases hm : i ∈ vs
      · rw [if_pos hm]
      · rw [if_neg hm, List.set_set]
    · by_cases hm : i ∈ vs
      · rw [if_pos hm, if_pos (List.mem_cons_of_mem _ hm)]
      · rw [if_neg hm, if_neg (by simp [hv, hm]), List.set_comm _ _ hv]
abbrev Tg := Val → Env → Option Env
abbrev Tgs := List Val → Env → Option Env
section
variable {G : Gm} {S : Sx} {pos : Pos}
def LftG (K : PySem.W.Frag) (own : List Nat) (m : Tg) : TG := fun x σ H Q => ∃ mp ρ h v ρ', HRel K mp H h ∧ ERel K mp H ρ σ ∧ RVal K mp H v x ∧ m v ρ = some ρ' ∧ ∀ σ', ERel K mp H ρ' σ' → (∀ ws, (∀ i ∈ own, i ∈ ws) → L2.wipe σ' ws = L2.wipe σ ws) → Q σ' H
def LftGs (K : PySem.W.Frag) (own : List Nat) (m : Tgs) : TGs := fun xs σ H Q => ∃ mp ρ h vs ρ', HRel K mp H h ∧ ERel K mp H ρ σ ∧ RVals K mp H vs xs ∧ m vs ρ = some ρ' ∧ ∀ σ', ERel K mp H ρ' σ' → (∀ ws, (∀ i ∈ own, i ∈ ws) → L2.wipe σ' ws = L2.wipe σ ws) → Q σ' H
def DG (G : Gm) (S : Sx) (tg : Expr) (own : List Nat) (m : Tg) : Prop := ∀ k (T : Tab G) X W, Ctx G S k T X W → PG X tg (LftG X.K own m)
def DGs (G : Gm) (S : Sx) (tg : List Expr) (own : List Nat) (m : Tgs) : Prop := ∀ k (T : Tab G) X W, Ctx G S k T X W → PGs X tg (LftGs X.K own m)
theorem _root_.L2.PG.wk {X : Cx} {e : Expr} {t t' : TG} (x : PG X e t) (h : ∀ v σ H Q, t' v σ H Q → t v σ H Q) : PG X e t' := ⟨fun pins s σ H v u Q I r q => x.run pins s σ H v u Q I r (h v σ H Q q)⟩
theorem _root_.L2.PGs.wk {X : Cx} {e : List Expr} {t t' : TGs} (x : PGs X e t) (h : ∀ v σ H Q, t' v σ H Q → t v σ H Q) : PGs X e t' := ⟨fun pins s σ H v u Q I r q => x.run pins s σ H v u Q I r (h v σ H Q q)⟩
def gVar (i : Nat) : Tg := fun v ρ => some (ρ.set i (some v))
abbrev LocS (S : Sx) (x : Str) : Prop := S.sc.names.lookup x = some .local ∨ S.sc.names.lookup x = some .cell ∧ S.fb x = true
theorem Ctx.loc {k : Nat} {T : Tab G} {X : Cx} {W : WX} (C : Ctx G S k T X W) {x : Str} (h : LocS S x) : L2.Loc X.env.scope x ∧ (X.fn x = true ∨ X.env.scope.names.lookup x = some .local) := by
  unfold L2.Loc
  rw [C.sc]
  rcases h with h | ⟨h, f⟩
  · exact ⟨.inl h, .inr h⟩
  · exact ⟨.inr h, .inl (C.fb x f)⟩
theorem dg_var (i : Nat) {x : Str} (hN : S.N[i]? = some x := by rfl) (hl : LocS S x := by first | exact Or.inl rfl | exact Or.inr ⟨rfl, rfl⟩) : DG G S (.Name x pos) [i] (gVar i) := fun k T X W C => by
  have hl := C.loc hl
  have nd : X.N.Nodup := by rw [C.N]; exact C.nd
  refine (pg_name (i := i) nd (by rw [C.N]; exact hN) hl.1 hl.2).wk fun x σ H Q ⟨mp, ρ, h, v, ρ', R, E, r, e, q⟩ => ?_
  cases e
  exact q _ (E.set r i) fun ws hw => by rw [wipe_set, if_pos (hw i (List.mem_cons_self ..))]
def gNilG : Tgs := fun vs ρ => match vs with
  | [] => some ρ
  | _ => none
def gConsG (g : Tg) (gs : Tgs) : Tgs := fun vs ρ => match vs with
  | v :: vs => (g v ρ).bind fun ρ' => gs vs ρ'
  | [] => none
theorem dgs_nil : DGs G S [] [] gNilG := fun k T X W C => by
  refine pgs_nil.wk fun x σ H Q ⟨mp, ρ, h, vs, ρ', R, E, r, e, q⟩ => ?_
  cases r with
  | nil => cases e; exact ⟨rfl, q σ E fun _ _ => rfl⟩
  | cons a b => cases e
theorem dgs_cons {e : Expr} {es : List Expr} {o os : List Nat} {g : Tg} {gs : Tgs} (h1 : DG G S e o g) (h2 : DGs G S es os gs) (hs : ∀ env, (assignEach (e :: es) env).map (·.2) = assign e env :: (assignEach es env).map (·.2) := by intro _; rfl) : DGs G S (e :: es) (o ++ os) (gConsG g gs) := fun k T X W C => by
  refine (pgs_cons (h1 k T X W C) (h2 k T X W C) (hs _)).wk fun x σ H Q ⟨mp, ρ, h, vs, ρ', R, E, r, e, q⟩ => ?_
  cases r with
  | nil => cases e
  | cons a b =>
    obtain ⟨ρ1, e1, e2⟩ := Option.bind_eq_some_iff.mp e
    refine ⟨_, _, rfl, mp, ρ, h, _, ρ1, R, E, a, e1, fun σ1 E1 w1 => ⟨mp, ρ1, h, _, ρ', R, E1, b, e2, fun σ2 E2 w2 => q σ2 E2 fun ws hw => ?_⟩⟩
    rw [w2 ws fun i hi => hw i (List.mem_append_right _ hi), w1 ws fun i hi => hw i (List.mem_append_left _ hi)]
def gTupG (n : Nat) (gs : Tgs) : Tg := fun v ρ => (tupOf v).bind fun vs => if vs.length = n then gs vs ρ else none
theorem dg_tup {es : List Expr} {kk : Nat} {o : List Nat} {gs : Tgs} {n : Nat} (h : DGs G S es o gs) (hn : ∀ env, (assignEach es env).length = n := by intro _; rfl) (hst : ∀ env, (assignEach es env).findIdx? (·.1) = none := by intro _; rfl) : DG G S (.Tuple es kk pos) o (gTupG n gs) := fun k T X W C => by
  refine (pg_tup C.calm (h k T X W C) (hn _) (hst _)).wk fun x σ H Q ⟨mp, ρ, h, v, ρ', R, E, r, e, q⟩ => ?_
  obtain ⟨vs, e1, e2⟩ := Option.bind_eq_some_iff.mp e
  split at e2
  · rename_i hl
    obtain ⟨a, xs, rfl, s, rs⟩ := tup_rel r e1
    exact ⟨a, xs, rfl, s, by rw [← rs.length]; exact hl, mp, ρ, h, vs, ρ', R, E, rs, e2, q⟩
  · cases e2

/-! ### statements -/
def sNext : Sv G := fun _ ρ h => .nx ρ h
def sBrk : Sv G := fun _ ρ h => .bk ρ h
def sCont : Sv G := fun _ ρ h => .ct ρ h
def sSeq (m n : Sv G) : Sv G := fun T ρ h => match m T ρ h with
  | .nx ρ' h' => n T ρ' h'
  | r => r
def sEr {α : Type} (m : Env → Hh → R α) (k : α → Env → Hh → RS) (ρ : Env) (h : Hh) : RS := match m ρ h with
  | .ok v h' => k v ρ h'
  | .exc c h' => .exc c ρ h'
  | .bad => .bad
def sE (m : Ev G) (k : Val → Env → Hh → RS) : Sv G := fun T => sEr (m T) k
def sT (m : Tv G) (p q : Sv G) : Sv G := fun T ρ h => match m T ρ h with
  | .ok true h' => p T ρ h'
  | .ok false h' => q T ρ h'
  | .exc c h' => .exc c ρ h'
  | .bad => .bad
def sDrop (m : Ev G) : Sv G := fun T => sEr (m T) fun _ ρ h => .nx ρ h
def sRet (m : Ev G) : Sv G := fun T => sEr (m T) fun v _ h => .rt v h
def sSet (m : Ev G) (g : Tg) : Sv G := fun T => sEr (m T) fun v ρ h => match g v ρ with
  | some ρ' => .nx ρ' h
  | none => .bad
/-- an expression's reading inside a statement's -/
theorem se_bnd {K : PySem.W.Frag} {mp : List Addr} {H : Hp} {h : Hh} {ρ : Env} {σ : L2.St} {W : WX} {m : Env → Hh → R Val} {k : Val → Env → Hh → RS} {D : Ends} {Q1 : VK}
    (R0 : HRel K mp H h) (E : ERel K mp H ρ σ) (q : ResS K W mp H (sEr m k ρ h) D)
    (hk : ∀ v y mp1 h1 H1, Ext K mp H mp1 H1 → HRel K mp1 H1 h1 → ERel K mp1 H1 ρ σ → RVal K mp1 H1 v y → ResS K W mp1 H1 (k v ρ h1) D → Q1 y H1) : Lft K (rV K) W m σ H Q1 := by
  refine ⟨mp, ρ, h, R0, E, ?_⟩
  unfold sEr at q
  cases e : m ρ h with
  | ok v h' =>
    rw [e] at q
    exact fun mp' y H' R' E' r => hk v y mp' h' H' E' R' (E.mono E') r (q.shift E')
  | exc c h' =>
    rw [e] at q
    exact fun d mp' H' R' E' => q d mp' σ H' R' E' (E.mono E')
  | bad =>
    rw [e] at q
    exact q
theorem ds_pass : DS G S (.Pass pos) (sNext (G := G)) := fun k T X W C => ps_pass.wk fun D σ H ⟨mp, ρ, h, R, E, q⟩ => q mp σ H R .refl E
theorem ds_doc {x j} {p : Pos} : DS G S (.Expr (.Constant (.str x) j p) pos) (sNext (G := G)) := fun k T X W C => ps_doc.wk fun D σ H ⟨mp, ρ, h, R, E, q⟩ => q mp σ H R .refl E
theorem ds_break : DS G S (.Break pos) (sBrk (G := G)) := fun k T X W C => ps_break.wk fun D σ H ⟨mp, ρ, h, R, E, q⟩ => q mp σ H R .refl E
theorem ds_continue : DS G S (.Continue pos) (sCont (G := G)) := fun k T X W C => ps_continue.wk fun D σ H ⟨mp, ρ, h, R, E, q⟩ => q mp σ H R .refl E
theorem ds_expr {e : Expr} {m : Ev G} (he : DE G S e m) (hs : ∀ env, swapsWith e none pos.line env = pure false := by intro _; rfl) : DS G S (.Expr e pos) (sDrop m) := fun k T X W C =>
  (ps_expr (he k T X W C) (hs _)).wk fun D σ H ⟨mp, ρ, h, R, E, q⟩ => se_bnd R E q fun v y mp1 h1 H1 X1 R1 E1 r1 q1 => q1 mp1 σ H1 R1 .refl E1
theorem ds_ret {e : Expr} {m : Ev G} (he : DE G S e m) : DS G S (.Return (some e) pos) (sRet m) := fun k T X W C =>
  (ps_ret (he k T X W C)).wk fun D σ H ⟨mp, ρ, h, R, E, q⟩ => se_bnd R E q fun v y mp1 h1 H1 X1 R1 E1 r1 q1 => q1 mp1 y H1 R1 .refl r1
theorem ds_set (i : Nat) {x : Str} {e : Expr} {m : Ev G} {p : Pos} (he : DE G S e m) (hN : S.N[i]? = some x := by rfl) (hl : LocS S x := by first | exact Or.inl rfl | exact Or.inr ⟨rfl, rfl⟩)
    (hs : ∀ env : PySem.Env, env.scope = S.sc → env.scope.kind = .function → swapsWith e (some (.Name x p)) pos.line env = pure false := by intro env h hk; first | rfl | (cases env; cases h; rfl)) : DS G S (.Assign [.Name x p] e pos) (sSet m (gVar i)) := fun k T X W C => by
  have hl := C.loc hl
  have nd : X.N.Nodup := by rw [C.N]; exact C.nd
  exact (ps_set (i := i) nd (by rw [C.N]; exact hN) hl.1 (he k T X W C) (hs _ C.sc (by rw [C.sc]; exact C.kd)) hl.2).wk fun D σ H ⟨mp, ρ, h, R, E, q⟩ => se_bnd R E q fun v y mp1 h1 H1 X1 R1 E1 r1 q1 => q1 mp1 _ H1 R1 .refl (E1.set r1 i)
/-- target = value -/
theorem ds_asg {tg e : Expr} {m : Ev G} {o : List Nat} {g : Tg} (he : DE G S e m) (hg : DG G S tg o g) (hs : ∀ env : PySem.Env, env.scope = S.sc → env.scope.kind = .function → swapsWithSole [tg] e pos.line env = pure false := by intro env h hk; first | rfl | (cases env; cases h; rfl)) (hw : ∀ env : PySem.Env, env.scope = S.sc → env.scope.kind = .function → swappedStores [tg] e env = pure none := by intro env h hk; first | rfl | (cases env; cases h; rfl))
    (h1 : ∀ env, (assignEach [tg] env).map (·.2) = [assign tg env] := by intro _; rfl) : DS G S (.Assign [tg] e pos) (sSet m g) := fun k T X W C => by
  refine (ps_asg (he k T X W C) (hg k T X W C) (hs _ C.sc (by rw [C.sc]; exact C.kd)) (hw _ C.sc (by rw [C.sc]; exact C.kd)) (h1 _)).wk fun D σ H ⟨mp, ρ, h, R, E, q⟩ => se_bnd R E q fun v y mp1 h1 H1 X1 R1 E1 r1 q1 => ?_
  split at q1
  · rename_i ρ' e
    exact ⟨mp1, ρ, h1, v, ρ', R1, E1, r1, e, fun σ' E' _ => q1 mp1 σ' H1 R1 .refl E'⟩
  · exact q1.elim
/-- a, b = x, y -/
def sPar (m : Av G) (is : List Nat) : Sv G := fun T => sEr (m T) fun vs ρ h => if vs.length = is.length then .nx ((is.zip vs).foldl (fun ρ p => ρ.set p.1 (some p.2)) ρ) h else .bad
theorem sa_bnd {K : PySem.W.Frag} {mp : List Addr} {H : Hp} {h : Hh} {ρ : Env} {σ : L2.St} {W : WX} {m : Env → Hh → R (List Val)} {k : List Val → Env → Hh → RS} {D : Ends} {Q1 : List V → Hp → Prop}
    (R0 : HRel K mp H h) (E : ERel K mp H ρ σ) (q : ResS K W mp H (sEr m k ρ h) D)
    (hk : ∀ v y mp1 h1 H1, Ext K mp H mp1 H1 → HRel K mp1 H1 h1 → ERel K mp1 H1 ρ σ → RVals K mp1 H1 v y → ResS K W mp1 H1 (k v ρ h1) D → Q1 y H1) : Lft K (rVs K) W m σ H Q1 := by
  refine ⟨mp, ρ, h, R0, E, ?_⟩
  unfold sEr at q
  cases e : m ρ h with
  | ok v h' =>
    rw [e] at q
    exact fun mp' y H' R' E' r => hk v y mp' h' H' E' R' (E.mono E') r (q.shift E')
  | exc c h' =>
    rw [e] at q
    exact fun d mp' H' R' E' => q d mp' σ H' R' E' (E.mono E')
  | bad =>
    rw [e] at q
    exact q
theorem ds_par (i j : Nat) {x y : Str} {a b : Expr} {m : Av G} {px py pt : Pos} {kt k2 pt2} (ha : DA G S [a, b] m) (hi : S.N[i]? = some x := by rfl) (hj : S.N[j]? = some y := by rfl) (hij : i ≠ j := by decide)
    (hx : S.sc.names.lookup x = some .local := by rfl) (hy : S.sc.names.lookup y = some .local := by rfl)
    (hw : ∀ env : PySem.Env, env.scope = S.sc → env.scope.kind = .function → swappedStores [.Tuple [.Name x px, .Name y py] kt pt] (.Tuple [a, b] k2 pt2) env = pure (some [x, y]) := by intro env h hk; (cases env; cases h; rfl))
    (hs : ∀ env, swapsWithSole [.Tuple [.Name x px, .Name y py] kt pt] (.Tuple [a, b] k2 pt2) pos.line env = pure false := by intro _; rfl) :
    DS G S (.Assign [.Tuple [.Name x px, .Name y py] kt pt] (.Tuple [a, b] k2 pt2) pos) (sPar m [i, j]) := fun k T X W C => by
  have nd : X.N.Nodup := by rw [C.N]; exact C.nd
  refine (ps_par (i := i) (j := j) C.calm nd (by rw [C.N]; exact hi) (by rw [C.N]; exact hj) hij (by rw [C.sc]; exact hx) (by rw [C.sc]; exact hy) (ha k T X W C) (hw _ C.sc (by rw [C.sc]; exact C.kd)) (hs _)).wk fun D σ H ⟨mp, ρ, h, R, E, q⟩ => sa_bnd R E q fun v y mp1 h1 H1 X1 R1 E1 r1 q1 => ?_
  split at q1
  · rename_i hl
    match v, r1, hl with
    | [v1, v2], .cons r1 (.cons r2 .nil), _ => exact ⟨_, _, rfl, q1 mp1 _ H1 R1 .refl ((E1.set r1 i).set r2 j)⟩
  · exact q1.elim
theorem ds_par3 (i j l : Nat) {x y z : Str} {a b c : Expr} {m : Av G} {px py pz pt : Pos} {kt k2 pt2} (ha : DA G S [a, b, c] m) (hi : S.N[i]? = some x := by rfl) (hj : S.N[j]? = some y := by rfl) (hl : S.N[l]? = some z := by rfl) (hij : i ≠ j := by decide) (hil : i ≠ l := by decide) (hjl : j ≠ l := by decide)
    (hx : S.sc.names.lookup x = some .local := by rfl) (hy : S.sc.names.lookup y = some .local := by rfl) (hz : S.sc.names.lookup z = some .local := by rfl)
    (hw : ∀ env : PySem.Env, env.scope = S.sc → env.scope.kind = .function → swappedStores [.Tuple [.Name x px, .Name y py, .Name z pz] kt pt] (.Tuple [a, b, c] k2 pt2) env = pure (some [x, y, z]) := by intro env h hk; (cases env; cases h; rfl))
    (hs : ∀ env, swapsWithSole [.Tuple [.Name x px, .Name y py, .Name z pz] kt pt] (.Tuple [a, b, c] k2 pt2) pos.line env = pure false := by intro _; rfl) :
    DS G S (.Assign [.Tuple [.Name x px, .Name y py, .Name z pz] kt pt] (.Tuple [a, b, c] k2 pt2) pos) (sPar m [i, j, l]) := fun k T X W C => by
  have nd : X.N.Nodup := by rw [C.N]; exact C.nd
  refine (ps_par3 (i := i) (j := j) (l := l) C.calm nd (by rw [C.N]; exact hi) (by rw [C.N]; exact hj) (by rw [C.N]; exact hl) hij hil hjl (by rw [C.sc]; exact hx) (by rw [C.sc]; exact hy) (by rw [C.sc]; exact hz) (ha k T X W C) (hw _ C.sc (by rw [C.sc]; exact C.kd)) (hs _)).wk fun D σ H ⟨mp, ρ, h, R, E, q⟩ => sa_bnd R E q fun v y mp1 h1 H1 X1 R1 E1 r1 q1 => ?_
  split at q1
  · rename_i hl
    match v, r1, hl with
    | [v1, v2, v3], .cons r1 (.cons r2 (.cons r3 .nil)), _ => exact ⟨_, _, _, rfl, q1 mp1 _ H1 R1 .refl (((E1.set r1 i).set r2 j).set r3 l)⟩
  · exact q1.elim
theorem ds_if {c : Expr} {a b : List Stmt} {t : Tv G} {m n : Sv G} (hc : DT G S c t) (ha : DSs G S a m) (hb : DSs G S b n) : DS G S (.If c a b pos) (sT t m n) := fun k T X W C => by
  refine (ps_if (hc k T X W C) (ha k T X W C) (hb k T X W C)).wk fun D σ H ⟨mp, ρ, h, R, E, q⟩ => ⟨mp, ρ, h, R, E, ?_⟩
  unfold sT at q
  cases e : t T ρ h with
  | ok b h' =>
    rw [e] at q
    intro mp' y H' R' E' r
    cases r
    cases b with
    | true => exact ⟨mp', ρ, h', R', E.mono E', q.shift E'⟩
    | false => exact ⟨mp', ρ, h', R', E.mono E', q.shift E'⟩
  | exc c h' =>
    rw [e] at q
    exact fun d mp' H' R' E' => q d mp' σ H' R' E' (E.mono E')
  | bad =>
    rw [e] at q
    exact q
theorem dss_nil : DSs G S [] (sNext (G := G)) := fun k T X W C => pss_nil.wk fun D σ H ⟨mp, ρ, h, R, E, q⟩ => q mp σ H R .refl E
theorem dss_one {st : Stmt} {m : Sv G} (h : DS G S st m) : DSs G S [st] m := fun k T X W C => pss_one (h k T X W C)
theorem ResS.seq {K : PySem.W.Frag} {W : WX} {mp : List Addr} {H : Hp} {r : RS} {D D' : Ends} (x : ResS K W mp H r D)
    (hn : ∀ ρ' h' mp' σ' H', r = .nx ρ' h' → HRel K mp' H' h' → Ext K mp H mp' H' → ERel K mp' H' ρ' σ' → D.nx σ' H' → D'.nx σ' H') (hr : ∀ v H, D.rt v H → D'.rt v H) (hb : ∀ v H, D.bk v H → D'.bk v H) (hc : ∀ v H, D.ct v H → D'.ct v H) : ResS K W mp H r D' := by
  cases r with
  | nx ρ' h' => exact fun mp' σ' H' R E q => hn _ _ _ _ _ rfl R E q (x mp' σ' H' R E q)
  | rt v h' => exact fun mp' σ' H' R E q => hr _ _ (x mp' σ' H' R E q)
  | bk ρ' h' => exact fun mp' σ' H' R E q => hb _ _ (x mp' σ' H' R E q)
  | ct ρ' h' => exact fun mp' σ' H' R E q => hc _ _ (x mp' σ' H' R E q)
  | exc c ρ' h' => exact x
  | bad => exact x
theorem dss_cons {st : Stmt} {rest : List Stmt} {m n : Sv G} (h1 : DS G S st m) (h2 : DSs G S rest n) : DSs G S (st :: rest) (sSeq m n) := fun k T X W C => by
  refine (pss_cons (h1 k T X W C) (h2 k T X W C)).wk fun D σ H ⟨mp, ρ, h, R, E, q⟩ => ⟨mp, ρ, h, R, E, ?_⟩
  unfold sSeq at q
  cases e : m T ρ h with
  | nx ρ' h' =>
    rw [e] at q
    exact fun mp' σ' H' R' E' q' => ⟨mp', ρ', h', R', q', q.shift E'⟩
  | rt v h' => rw [e] at q; exact q
  | bk v h' => rw [e] at q; exact q
  | ct v h' => rw [e] at q; exact q
  | exc c v h' => rw [e] at q; exact q
  | bad => rw [e] at q; exact q

/-! ### loops -/
open Classical in
noncomputable def forGo (chk : Hh → Prop) (g : Tg) (body : Env → Hh → RS) : List Val → Env → Hh → RS
  | [], ρ, h => if chk h then .nx ρ h else .bad
  | v :: vs, ρ, h => if chk h then (match g v ρ with
    | some ρ' => (match body ρ' h with
      | .nx ρ2 h2 => forGo chk g body vs ρ2 h2
      | .ct ρ2 h2 => forGo chk g body vs ρ2 h2
      | .bk ρ2 h2 => .nx ρ2 h2
      | r => r)
    | none => .bad) else .bad
noncomputable def sFor (it : Iv G) (g : Tg) (body : Sv G) : Sv G := fun T ρ h => match it T ρ h with
  | .ok i h' => forGo i.chk g (body T) i.vs ρ h'
  | .exc c h' => .exc c ρ h'
  | .bad => .bad
theorem drop_cons {α : Type} {l : List α} {i : Nat} {v : α} {vs : List α} (e : l.drop i = v :: vs) : l[i]? = some v ∧ l.drop (i + 1) = vs ∧ i < l.length := by
  have h1 : l[i]? = some v := by
    have := congrArg List.head? e
    rwa [List.head?_drop] at this
  refine ⟨h1, ?_, (List.getElem?_eq_some_iff.mp h1).1⟩
  have := congrArg List.tail e
  rwa [List.tail_drop] at this
theorem ds_for {tg iter : Expr} {body : List Stmt} {it : Iv G} {o : List Nat} {g : Tg} {m : Sv G} (hi : DI G S tg iter it) (hg : DG G S tg o g) (hb : DSs G S body m) (hs : ∀ env x, foldedSetIterable iter env x = pure x := by intro _ _; rfl) :
    DS G S (.For tg iter body [] pos) (sFor it g m) := fun k T X W C => by
  refine (ps_for C.po C.calm (hi k T X W C) (hg k T X W C) (hb k T X W C) (hs _)).wk fun D σ H ⟨mp, ρ, h, R, E, q⟩ => ⟨mp, ρ, h, R, E, ?_⟩
  unfold sFor at q
  cases e : it T ρ h with
  | exc c h' =>
    rw [e] at q
    exact fun d mp' H' R' E' => q d mp' σ H' R' E' (E.mono E')
  | bad =>
    rw [e] at q
    exact q
  | ok i0 h' =>
    rw [e] at q
    intro mp0 J H0 R0 E0 rJ
    refine ⟨fun i n σ H => n = i0.vs.length - i ∧ ∃ mp ρ h, HRel X.K mp H h ∧ ERel X.K mp H ρ σ ∧ Ext X.K mp0 H0 mp H ∧ ResS X.K W mp H (forGo i0.chk g (m T) (i0.vs.drop i) ρ h) D, ⟨_, rfl, mp0, ρ, h', R0, E.mono E0, .refl, by rw [List.drop_zero]; exact q.shift E0⟩, ?_⟩
    rintro i n σ H ⟨rfl, mp, ρ, h, R, E, X0, q⟩
    cases ed : i0.vs.drop i with
    | nil =>
      rw [ed] at q
      unfold forGo at q
      split at q
      · rename_i hc
        refine .inl ⟨(rJ i mp h H X0 R hc).2 (by have := congrArg List.length ed; rw [List.length_drop, List.length_nil] at this; omega), q mp σ H R .refl E⟩
      · exact q.elim
    | cons v vs =>
      obtain ⟨hv, hvs, hl⟩ := drop_cons ed
      rw [ed] at q
      unfold forGo at q
      split at q
      · rename_i hc
        obtain ⟨hgo, hy⟩ := (rJ i mp h H X0 R hc).1 v hv
        split at q
        · rename_i ρ' eg
          refine .inr ⟨hgo, fun σ' H' => ∃ mp' ρ' h', HRel X.K mp' H' h' ∧ ERel X.K mp' H' ρ' σ' ∧ Ext X.K mp0 H0 mp' H' ∧ ResS X.K W mp' H' (forGo i0.chk g (m T) (i0.vs.drop (i + 1)) ρ' h') D,
            fun σ' H' n' => ⟨_, by omega, rfl, n'⟩, fun x H' y => ?_⟩
          obtain ⟨R1, X1, r1⟩ := hy x H' y
          refine ⟨mp, ρ, h, v, ρ', R1, E.mono X1, r1, eg, fun σ' E' _ => ⟨mp, ρ', h, R1, E', ?_⟩⟩
          have q := q.shift X1
          cases eb : m T ρ' h with
          | nx ρ2 h2 =>
            rw [eb] at q
            exact fun mp2 σ2 H2 R2 X2 E2 => ⟨mp2, ρ2, h2, R2, E2, (X0.trans X1).trans X2, by rw [hvs]; exact q.shift X2⟩
          | ct ρ2 h2 =>
            rw [eb] at q
            exact fun mp2 σ2 H2 R2 X2 E2 => ⟨mp2, ρ2, h2, R2, E2, (X0.trans X1).trans X2, by rw [hvs]; exact q.shift X2⟩
          | bk ρ2 h2 => rw [eb] at q; exact q
          | rt v2 h2 => rw [eb] at q; exact q
          | exc c ρ2 h2 => rw [eb] at q; exact q
          | bad => rw [eb] at q; exact q
        · exact q.elim
      · exact q.elim
/-- n turns at most -/
def whGo (c : Env → Hh → R Bool) (b : Env → Hh → RS) : Nat → Env → Hh → RS
  | 0, _, _ => .bad
  | n + 1, ρ, h => match c ρ h with
    | .ok true h1 => (match b ρ h1 with
      | .nx ρ2 h2 => whGo c b n ρ2 h2
      | .ct ρ2 h2 => whGo c b n ρ2 h2
      | .bk ρ2 h2 => .nx ρ2 h2
      | r => r)
    | .ok false h1 => .nx ρ h1
    | .exc x h1 => .exc x ρ h1
    | .bad => .bad
open Classical in
noncomputable def sWhile (c : Tv G) (b : Sv G) : Sv G := fun T ρ h => if x : ∃ n, whGo (c T) (b T) n ρ h ≠ .bad then whGo (c T) (b T) x.choose ρ h else .bad
theorem whGo_mono {c : Env → Hh → R Bool} {b : Env → Hh → RS} : ∀ {n m : Nat} {ρ : Env} {h : Hh}, n ≤ m → whGo c b n ρ h ≠ .bad → whGo c b m ρ h = whGo c b n ρ h
  | 0, _, ρ, h, _, x => absurd rfl x
  | n + 1, 0, ρ, h, hl, x => absurd hl (by omega)
  | n + 1, m + 1, ρ, h, hl, x => by
    unfold whGo at x ⊢
    cases e : c ρ h with
    | ok t h1 =>
      rw [e] at x
      cases t with
      | false => rfl
      | true =>
        cases e2 : b ρ h1 with
        | nx ρ2 h2 => simp only [e2] at x ⊢; exact whGo_mono (by omega) x
        | ct ρ2 h2 => simp only [e2] at x ⊢; exact whGo_mono (by omega) x
        | bk ρ2 h2 => simp only [e2]
        | rt v2 h2 => simp only [e2]
        | exc c2 ρ2 h2 => simp only [e2]
        | bad => simp only [e2]
    | exc x1 h1 => rfl
    | bad => rfl
theorem sWhile_eq {c : Tv G} {b : Sv G} {T : Tab G} {ρ : Env} {h : Hh} (n : Nat) {r : RS} (e : whGo (c T) (b T) n ρ h = r) (hr : r ≠ .bad) : sWhile c b T ρ h = r := by
  have x : ∃ n, whGo (c T) (b T) n ρ h ≠ .bad := ⟨n, by rw [e]; exact hr⟩
  unfold sWhile
  rw [dif_pos x]
  have y := x.choose_spec
  rcases Nat.le_total n x.choose with l | l
  · rw [whGo_mono l (by rw [e]; exact hr), e]
  · rw [← whGo_mono l y, e]
theorem ds_while {c : Expr} {body : List Stmt} {t : Tv G} {m : Sv G} (hc : DT G S c t) (hb : DSs G S body m) : DS G S (.While c body [] pos) (sWhile t m) := fun k T X W C => by
  refine (ps_while C.po (hc k T X W C) (hb k T X W C)).wk fun D σ H ⟨mp, ρ, h, R, E, q⟩ => ?_
  unfold sWhile at q
  split at q
  · rename_i hx
    refine ⟨fun n σ H => ∃ mp ρ h, HRel X.K mp H h ∧ ERel X.K mp H ρ σ ∧ ResS X.K W mp H (whGo (t T) (m T) n ρ h) D, ⟨_, mp, ρ, h, R, E, q⟩, ?_⟩
    rintro n σ H ⟨mp, ρ, h, R, E, q⟩
    cases n with
    | zero => exact q.elim
    | succ n =>
      refine ⟨mp, ρ, h, R, E, ?_⟩
      unfold whGo at q
      cases e : t T ρ h with
      | exc c h' =>
        rw [e] at q
        exact fun d mp' H' R' E' => q d mp' σ H' R' E' (E.mono E')
      | bad =>
        rw [e] at q
        exact q
      | ok b h' =>
        rw [e] at q
        intro mp1 y H1 R1 X1 r1
        cases r1
        have q := q.shift X1
        cases b with
        | false =>
          rw [if_neg Bool.false_ne_true]
          exact q mp1 σ H1 R1 .refl (E.mono X1)
        | true =>
          rw [if_pos rfl]
          refine ⟨fun σ' H' => ∃ mp' ρ' h', HRel X.K mp' H' h' ∧ ERel X.K mp' H' ρ' σ' ∧ ResS X.K W mp' H' (whGo (t T) (m T) n ρ' h') D, fun σ' H' n' => ⟨n, Nat.lt_succ_self n, n'⟩, mp1, ρ, h', R1, E.mono X1, ?_⟩
          cases eb : m T ρ h' with
          | nx ρ2 h2 =>
            simp only [eb] at q
            exact fun mp2 σ2 H2 R2 X2 E2 => ⟨mp2, ρ2, h2, R2, E2, q.shift X2⟩
          | ct ρ2 h2 =>
            simp only [eb] at q
            exact fun mp2 σ2 H2 R2 X2 E2 => ⟨mp2, ρ2, h2, R2, E2, q.shift X2⟩
          | bk ρ2 h2 => simp only [eb] at q; exact q
          | rt v2 h2 => simp only [eb] at q; exact q
          | exc c ρ2 h2 => simp only [eb] at q; exact q
          | bad => simp only [eb] at q; exact q
  · exact q.elim
end
end Dq
namespace Dq
open PySem PySem.Spec PyProof.Rows L2

/-! ### comprehensions -/
def Sx.blk (S : Sx) (scope : Scope) : Sx := { N := S.N, sc := relS scope S.sc, fb := fun x => scope.names.lookup x == some .cell, full := false }
abbrev W0 : WX := fun _ _ _ _ => False
theorem wipe_no {σ : L2.St} {i : Nat} : ∀ {vs : List Nat}, i ∈ vs → (L2.wipe σ vs).set i none = L2.wipe σ vs
  | v :: vs, hi => by
    unfold L2.wipe
    by_cases h : i = v
    · subst h
      rw [List.set_set]
    · have hi' : i ∈ vs := by
        rcases List.mem_cons.mp hi with z | z
        · exact absurd z h
        · exact z
      rw [List.set_comm _ _ (Ne.symm h), wipe_no hi']
theorem wipe_sub {σ : L2.St} {vs : List Nat} : ∀ {ws : List Nat}, (∀ i ∈ ws, i ∈ vs) → L2.wipe (L2.wipe σ vs) ws = L2.wipe σ vs
  | [], _ => rfl
  | w :: ws, h => by
    show (L2.wipe (L2.wipe σ vs) ws).set w none = _
    rw [wipe_sub fun i hi => h i (List.mem_cons_of_mem _ hi), wipe_no (h w (List.mem_cons_self ..))]
theorem HRel.extW {K : PySem.W.Frag} {mp : List Addr} {H : Hp} {h : Hh} (R : HRel K mp H h) {n : Nat} {a : Addr} (u : HO) (hn : mp[n]? = some a) : Ext K mp H mp (upd H a u) := by
  obtain ⟨n', o, ho, hm, q0⟩ := R.mem (List.mem_of_getElem? hn)
  obtain ⟨u0, hu0, mu0⟩ := q0.mapped
  refine ⟨List.prefix_refl _, fun c o' q m => ⟨?_, m⟩, fun c xs x => ?_⟩
  · have : c ≠ a := fun z => m (by rw [z]; exact List.mem_of_getElem? hn)
    rw [upd_ne this]; exact q
  · rcases x with x | x
    · refine .inl ?_
      rcases x with x | ⟨ob, x⟩
      · refine .inl ?_
        have : c ≠ a := fun z => by
          rw [z, hu0] at x
          have x' := Option.some.inj x
          subst x'
          exact mu0
        rw [upd_ne this]; exact x
      · refine .inr ⟨ob, ?_⟩
        have : c ≠ a := fun z => by
          rw [z, hu0] at x
          have x' := Option.some.inj x
          subst x'
          exact mu0
        rw [upd_ne this]; exact x
    · exact .inr x
section
variable {G : Gm} {S : Sx} {pos : Pos}
theorem Ctx.blk {k : Nat} {T : Tab G} {X : Cx} {W : WX} (C : Ctx G S k T X W) {scope : Scope} (hk : scope.kind = .function) (s : Shared) (H : Hp) (Cc : Addr) (cl : List (Str × Addr)) (fp : List Addr) :
    Ctx G (S.blk scope) k T (X.blk s H scope (compEnvC scope cl Cc X.env) fp) W0 where
  N := C.N
  nd := C.nd
  sc := by show relS scope X.env.scope = relS scope S.sc; rw [C.sc]
  kd := hk
  calm := C.calm
  room := C.room
  g := C.g
  tab := C.tab
  tk := takes0
  fb := fun x h => h
  po := PassesOwn.never
  full := fun h => by cases h
/-- a clause's tests -/
def DTs (G : Gm) (S : Sx) (ifs : List Expr) (m : Tv G) : Prop := ∀ k (T : Tab G) X W, Ctx G S k T X W → PTs X ifs (Lft X.K rB W (m T))
theorem _root_.L2.PTs.wk {X : Cx} {e : List Expr} {t t' : TT} (x : PTs X e t) (h : ∀ σ H Q, t' σ H Q → t σ H Q) : PTs X e t' := ⟨fun pins s σ H Q I q => x.run pins s σ H Q I (h σ H Q q)⟩
def qYes : Tv G := fun _ _ h => .ok true h
theorem dts_nil : DTs G S [] (qYes (G := G)) := fun k T X W C => pts_nil.wk fun σ H Q ⟨mp, ρ, h, R, E, q⟩ => q mp true H R .refl rfl
theorem dts_one {c : Expr} {m : Tv G} (h : DT G S c m) : DTs G S [c] m := fun k T X W C => pts_one (h k T X W C)
open Classical in
noncomputable def lcGo (n : Nat) (chk : Hh → Prop) (g : Tg) (ρ : Env) (t : Env → Hh → R Bool) (e : Env → Hh → R Val) : List Val → Hh → Option Hh
  | [], h => if chk h then some h else none
  | v :: vs, h => if chk h then (match g v ρ with
    | some ρ' => (match t ρ' h with
      | .ok true h1 => (match e ρ' h1 with
        | .ok y h2 => (match h2[n]? with
          | some (.lst acc) => if acc.length < sizeLine then lcGo n chk g ρ t e vs (h2.set n (.lst (acc ++ [y]))) else none
          | _ => none)
        | _ => none)
      | .ok false h1 => lcGo n chk g ρ t e vs h1
      | _ => none)
    | none => none) else none
noncomputable def eLc (it : Iv G) (g : Tg) (t : Tv G) (e : Ev G) (vs : List Nat) : Ev G := fun T => bnd (it T) fun i ρ h => match lcGo h.length i.chk g (wipeE ρ vs) (t T) (e T) i.vs (h ++ [.lst []]) with
  | some h' => .ok (.r h.length) h'
  | none => .bad
theorem lc_t {X : Cx} {W : WX} {T : Tab G} {it : Iv G} {g : Tg} {o : List Nat} {t : Tv G} {e : Ev G} {vs : List Nat} (ho : ∀ i ∈ o, i ∈ vs) {σ : L2.St} {H : Hp} {Q : VK} (x : Lft X.K (rV X.K) W (eLc it g t e vs T) σ H Q) :
    tLc (Lft X.K (rI X.K) W (it T)) (LftG X.K o g) (Lft X.K rB W0 (t T)) (Lft X.K (rV X.K) W0 (e T)) vs σ H Q := by
  obtain ⟨mp, ρ, h, R, E, q⟩ := x
  refine res_bnd R E q fun i0 J mp1 h1 H1 X1 R1 E1 rJ q1 => ?_
  intro D hD
  split at q1
  · rename_i hf eq
    obtain ⟨R2, X2⟩ := R1.alloc (o := .lst []) (u := .lst []) hD ⟨[], upd_same, .nil⟩
    refine ⟨fun i m H => m = i0.vs.length - i ∧ ∃ mp h, HRel X.K mp H h ∧ Ext X.K mp1 H1 mp H ∧ mp[h1.length]? = some D ∧ lcGo h1.length i0.chk g (wipeE ρ vs) (t T) (e T) (i0.vs.drop i) h = some hf,
      ⟨_, rfl, _, _, R2, X2, by rw [← R1.len]; simp, by rw [List.drop_zero]; exact eq⟩, ?_⟩
    rintro i m H ⟨rfl, mp, h, R, X0, hn, eq⟩
    cases ed : i0.vs.drop i with
    | nil =>
      rw [ed] at eq
      unfold lcGo at eq
      split at eq
      · rename_i hc
        have st := (rJ i mp h H X0 R hc).2 (by have := congrArg List.length ed; rw [List.length_drop, List.length_nil] at this; omega)
        cases eq
        exact .inl ⟨st, q1 mp _ H R X0 (.r hn)⟩
      · cases eq
    | cons v vs' =>
      obtain ⟨hv, hvs, hl⟩ := drop_cons ed
      rw [ed] at eq
      unfold lcGo at eq
      split at eq
      · rename_i hc
        obtain ⟨hgo, hy⟩ := (rJ i mp h H X0 R hc).1 v hv
        split at eq
        · rename_i ρ' eg
          refine .inr ⟨hgo, fun H' => ∃ mp' h', HRel X.K mp' H' h' ∧ Ext X.K mp1 H1 mp' H' ∧ mp'[h1.length]? = some D ∧ lcGo h1.length i0.chk g (wipeE ρ vs) (t T) (e T) (i0.vs.drop (i + 1)) h' = some hf,
            fun H' n' => ⟨_, by omega, rfl, n'⟩, fun x H' y => ?_⟩
          obtain ⟨R3, X3, r3⟩ := hy x H' y
          have X03 := X0.trans X3
          refine ⟨mp, wipeE ρ vs, h, v, ρ', R3, (E1.mono X03).wipe vs, r3, eg, fun σ' E' w' => ⟨?_, mp, ρ', h, R3, E', ?_⟩⟩
          · rw [w' vs ho, wipe_sub fun _ hi => hi]
          · split at eq
            · rename_i h3 et
              rw [et]
              intro mp4 y4 H4 R4 X4 r4
              cases r4
              rw [if_pos rfl]
              split at eq
              · rename_i y' h5 ee
                refine ⟨mp4, ρ', h3, R4, E'.mono X4, ?_⟩
                rw [ee]
                intro mp5 y5 H5 R5 X5 r5
                split at eq
                · rename_i acc ea
                  split at eq
                  · rename_i hz
                    have hn5 := pre_get (X4.trans X5).pre hn
                    obtain ⟨xs, o1, rx⟩ := R5.obj hn5 ea
                    refine ⟨xs, o1, by rw [← rx.length]; exact hz, ?_⟩
                    obtain ⟨R6, X6⟩ := R5.write (u := .lst (xs ++ [y5])) (o := .lst (acc ++ [y'])) hn5 ⟨_, upd_same, ((rx.append (.cons r5 .nil)).mono (R5.extW _ hn5))⟩
                    exact ⟨mp5, _, R6, ((X03.trans X4).trans X5).trans X6, hn5, by rw [hvs]; exact eq⟩
                  · cases eq
                · cases eq
              · cases eq
            · rename_i h3 et
              rw [et]
              intro mp4 y4 H4 R4 X4 r4
              cases r4
              rw [if_neg Bool.false_ne_true]
              exact ⟨mp4, h3, R4, X03.trans X4, pre_get X4.pre hn, by rw [hvs]; exact eq⟩
            · cases eq
        · cases eq
      · cases eq
  · exact q1.elim
theorem d_lc {elt tg iter : Expr} {ifs : List Expr} {scope : Scope} {it : Iv G} {g : Tg} {o : List Nat} {t : Tv G} {e : Ev G} (own : List (Str × Nat)) (hi : DI G S tg iter it) (hg : DG G (S.blk scope) tg o g) (ht : DTs G (S.blk scope) ifs t) (he : DE G (S.blk scope) elt e)
    (ok : blkC S.N S.sc scope own = true := by decide +kernel) (ho : ∀ i ∈ o, i ∈ own.map (·.2) := by decide) (hs : ∀ env x, foldedSetIterable iter env x = pure x := by intro _ _; rfl) : DE G S (.ListComp elt [⟨tg, iter, ifs, 0⟩] scope pos) (eLc it g t e (own.map (·.2))) := fun k T X W C => by
  have ok := blkOk_by ok
  exact (pe_lc (wi := Lft X.K (rI X.K) W (it T)) (g := LftG X.K o g) (tt := Lft X.K rB W0 (t T)) (te := Lft X.K (rV X.K) W0 (e T)) C.calm (by rw [C.N]; exact C.nd) (hi k T X W C) (by rw [C.N, C.sc]; exact ok) (fun s H Cc cl fp => hg k T _ _ (C.blk ok.kind s H Cc cl fp)) (fun s H Cc cl fp => ht k T _ _ (C.blk ok.kind s H Cc cl fp))
    (fun s H Cc cl fp => he k T _ _ (C.blk ok.kind s H Cc cl fp)) (hs _)).wk fun σ H Q x => lc_t ho x
theorem sw_comp {sc scope : Scope} {env : PySem.Env} {elt : Expr} {gs : List Comprehension} {t : Str} {p p2 : Pos} {l : Nat} (h : env.scope = sc) (hk : env.scope.kind = .function) :
    swapsWith (.ListComp elt gs scope p) (some (.Name t p2)) l env = pure (sc.names.lookup t == some .local && p2.line == p.line && !(scope.names.any fun (n, k) => n == t && (k == .local || k == .cell))) := by
  have hb : env.blockKind = .function := by unfold Env.blockKind; rw [hk]; rfl
  have ky : env.kindOf t = sc.names.lookup t := by rw [← h]; rfl
  unfold swapsWith
  simp only [hb, ky, Expr.pos]
  rfl
theorem sw_dcomp {sc scope : Scope} {env : PySem.Env} {kx vx : Expr} {gs : List Comprehension} {t : Str} {p p2 : Pos} {l : Nat} (h : env.scope = sc) (hk : env.scope.kind = .function) :
    swapsWith (.DictComp kx vx gs scope p) (some (.Name t p2)) l env = pure (sc.names.lookup t == some .local && p2.line == p.line && !(scope.names.any fun (n, k) => n == t && (k == .local || k == .cell))) := by
  have hb : env.blockKind = .function := by unfold Env.blockKind; rw [hk]; rfl
  have ky : env.kindOf t = sc.names.lookup t := by rw [← h]; rfl
  unfold swapsWith
  simp only [hb, ky, Expr.pos]
  rfl
theorem ds_setLc (i : Nat) {y : Str} {py spos : Pos} {elt tg iter : Expr} {ifs : List Expr} {scope : Scope} {it : Iv G} {g : Tg} {o : List Nat} {t : Tv G} {e : Ev G} (own : List (Str × Nat)) (hi : DI G S tg iter it) (hg : DG G (S.blk scope) tg o g) (ht : DTs G (S.blk scope) ifs t) (he : DE G (S.blk scope) elt e)
    (hN : S.N[i]? = some y := by rfl) (hl : S.sc.names.lookup y = some .local := by rfl) (ok : blkC S.N S.sc scope own = true := by decide +kernel) (ho : ∀ i ∈ o, i ∈ own.map (·.2) := by decide)
    (hsw : (S.sc.names.lookup y == some .local && py.line == pos.line && !(scope.names.any fun (n, k) => n == y && (k == .local || k == .cell))) = true := by rfl)
    (hs : ∀ env x, foldedSetIterable iter env x = pure x := by intro _ _; rfl) : DS G S (.Assign [.Name y py] (.ListComp elt [⟨tg, iter, ifs, 0⟩] scope pos) spos) (sSet (eGc (eLc it g t e (own.map (·.2)))) (gVar i)) := fun k T X W C => by
  have ok := blkOk_by ok
  have nd : X.N.Nodup := by rw [C.N]; exact C.nd
  refine (ps_setLc (i := i) (wi := Lft X.K (rI X.K) W (it T)) (g := LftG X.K o g) (tt := Lft X.K rB W0 (t T)) (te := Lft X.K (rV X.K) W0 (e T)) C.calm nd (by rw [C.N]; exact hN) (by rw [C.sc]; exact hl) (by rw [sw_comp C.sc (by rw [C.sc]; exact C.kd), hsw]) (hi k T X W C) (by rw [C.N, C.sc]; exact ok) (fun s H Cc cl fp => hg k T _ _ (C.blk ok.kind s H Cc cl fp)) (fun s H Cc cl fp => ht k T _ _ (C.blk ok.kind s H Cc cl fp))
    (fun s H Cc cl fp => he k T _ _ (C.blk ok.kind s H Cc cl fp)) (hs _)).wk fun D σ H ⟨mp, ρ, h, R, E, q⟩ => ?_
  refine lc_t ho ?_
  have z := se_bnd (Q1 := fun x H1 => gName i x σ H1 D.nx) R E q fun v y mp1 h1 H1 X1 R1 E1 r1 q1 => q1 mp1 _ H1 R1 .refl (E1.set r1 i)
  obtain ⟨mp', ρ', h', R', E', z⟩ := z
  exact ⟨mp', ρ', h', R', E', Res.gc R' z⟩
end
end Dq
namespace Dq
open PySem PySem.Spec PyProof.Rows L2

/-! ### dicts -/
def dput (kvs : List (Key × Val)) (k : Key) (v : Val) : List (Key × Val) :=
  if (kvs.any fun kv => decide (kv.1 = k)) = true then kvs.map (fun kv => if kv.1 = k then (kv.1, v) else kv) else kvs ++ [(k, v)]
section
variable {K : PySem.W.Frag} {mp : List Addr} {H : Hp}
theorem RKv.any {kvs : List (Key × Val)} {ks : List (Key × V)} (k : Key) (r : RKv K mp H kvs ks) : (kvs.any fun kv => decide (kv.1 = k)) = ks.any fun kv => decide (kv.1 = k) := by
  unfold RKv at r
  induction r with
  | nil => rfl
  | cons a b ih => rw [List.any_cons, List.any_cons, ih, a.1]
theorem RKv.len {kvs : List (Key × Val)} {ks : List (Key × V)} (r : RKv K mp H kvs ks) : kvs.length = ks.length := by
  unfold RKv at r
  induction r with
  | nil => rfl
  | cons a b ih => rw [List.length_cons, List.length_cons, ih]
theorem RKv.map {kvs : List (Key × Val)} {ks : List (Key × V)} {k : Key} {v : Val} {x : V} (q : RVal K mp H v x) (r : RKv K mp H kvs ks) : RKv K mp H (kvs.map (fun kv => if kv.1 = k then (kv.1, v) else kv)) (ks.map (fun kv => if kv.1 = k then (kv.1, x) else kv)) := by
  unfold RKv at r ⊢
  induction r with
  | nil => exact .nil
  | @cons a b as bs h t ih =>
    rw [List.map_cons, List.map_cons]
    refine .cons ?_ ih
    rw [h.1]
    by_cases e : b.1 = k
    · rw [if_pos e, if_pos e]; exact ⟨h.1.symm ▸ rfl, q⟩
    · rw [if_neg e, if_neg e]; exact h
theorem RKv.app {kvs kvs' : List (Key × Val)} {ks ks' : List (Key × V)} (r : RKv K mp H kvs ks) (q : RKv K mp H kvs' ks') : RKv K mp H (kvs ++ kvs') (ks ++ ks') := by
  unfold RKv at r q ⊢
  induction r with
  | nil => exact q
  | cons a b ih => exact .cons a ih
theorem RKv.put {kvs : List (Key × Val)} {ks : List (Key × V)} {v : Val} {x : V} (k : Key) (r : RKv K mp H kvs ks) (q : RVal K mp H v x) : RKv K mp H (dput kvs k v) (putK ks k x) := by
  unfold dput putK
  rw [r.any k]
  split
  · exact r.map q
  · exact r.app (.cons ⟨rfl, q⟩ .nil)
end
def keyV : Val → Option Key
  | .d x => keyD x
  | _ => none
theorem keyV_rel {K : PySem.W.Frag} {mp : List Addr} {H : Hp} {x : Val} {v : V} {k : Key} (e : keyV x = some k) (r : RVal K mp H x v) : v = kV k := by
  cases r with
  | d r => exact key_rel e r
  | r _ => cases e
  | t _ _ => cases e
  | fz _ _ => cases e
section
variable {G : Gm} {S : Sx} {pos : Pos}
open Classical in
noncomputable def dcGo (n : Nat) (chk : Hh → Prop) (g : Tg) (ρ : Env) (t : Env → Hh → R Bool) (a e : Env → Hh → R Val) : List Val → Hh → Option Hh
  | [], h => if chk h then some h else none
  | v :: vs, h => if chk h then (match g v ρ with
    | some ρ' => (match t ρ' h with
      | .ok true h1 => (match a ρ' h1 with
        | .ok x h2 => (match e ρ' h2 with
          | .ok y h3 => (match h3[n]?, keyV x with
            | some (.dic acc), some k => if acc.length < sizeLine then dcGo n chk g ρ t a e vs (h3.set n (.dic (dput acc k y))) else none
            | _, _ => none)
          | _ => none)
        | _ => none)
      | .ok false h1 => dcGo n chk g ρ t a e vs h1
      | _ => none)
    | none => none) else none
noncomputable def eDc (it : Iv G) (g : Tg) (t : Tv G) (a e : Ev G) (vs : List Nat) : Ev G := fun T => bnd (it T) fun i ρ h => match dcGo h.length i.chk g (wipeE ρ vs) (t T) (a T) (e T) i.vs (h ++ [.dic []]) with
  | some h' => .ok (.r h.length) h'
  | none => .bad
theorem dc_t {X : Cx} {W : WX} {T : Tab G} {it : Iv G} {g : Tg} {o : List Nat} {t : Tv G} {a e : Ev G} {vs : List Nat} (ho : ∀ i ∈ o, i ∈ vs) {σ : L2.St} {H : Hp} {Q : VK} (x : Lft X.K (rV X.K) W (eDc it g t a e vs T) σ H Q) :
    tDc (Lft X.K (rI X.K) W (it T)) (LftG X.K o g) (Lft X.K rB W0 (t T)) (Lft X.K (rV X.K) W0 (a T)) (Lft X.K (rV X.K) W0 (e T)) vs σ H Q := by
  obtain ⟨mp, ρ, h, R, E, q⟩ := x
  refine res_bnd R E q fun i0 J mp1 h1 H1 X1 R1 E1 rJ q1 => ?_
  intro D hD
  split at q1
  · rename_i hf eq
    obtain ⟨R2, X2⟩ := R1.alloc (o := .dic []) (u := .dK []) hD ⟨[], upd_same, .nil⟩
    refine ⟨fun i m H => m = i0.vs.length - i ∧ ∃ mp h, HRel X.K mp H h ∧ Ext X.K mp1 H1 mp H ∧ mp[h1.length]? = some D ∧ dcGo h1.length i0.chk g (wipeE ρ vs) (t T) (a T) (e T) (i0.vs.drop i) h = some hf,
      ⟨_, rfl, _, _, R2, X2, by rw [← R1.len]; simp, by rw [List.drop_zero]; exact eq⟩, ?_⟩
    rintro i m H ⟨rfl, mp, h, R, X0, hn, eq⟩
    cases ed : i0.vs.drop i with
    | nil =>
      rw [ed] at eq
      unfold dcGo at eq
      split at eq
      · rename_i hc
        have st := (rJ i mp h H X0 R hc).2 (by have := congrArg List.length ed; rw [List.length_drop, List.length_nil] at this; omega)
        cases eq
        exact .inl ⟨st, q1 mp _ H R X0 (.r hn)⟩
      · cases eq
    | cons v vs' =>
      obtain ⟨hv, hvs, hl⟩ := drop_cons ed
      rw [ed] at eq
      unfold dcGo at eq
      split at eq
      · rename_i hc
        obtain ⟨hgo, hy⟩ := (rJ i mp h H X0 R hc).1 v hv
        split at eq
        · rename_i ρ' eg
          refine .inr ⟨hgo, fun H' => ∃ mp' h', HRel X.K mp' H' h' ∧ Ext X.K mp1 H1 mp' H' ∧ mp'[h1.length]? = some D ∧ dcGo h1.length i0.chk g (wipeE ρ vs) (t T) (a T) (e T) (i0.vs.drop (i + 1)) h' = some hf,
            fun H' n' => ⟨_, by omega, rfl, n'⟩, fun x H' y => ?_⟩
          obtain ⟨R3, X3, r3⟩ := hy x H' y
          have X03 := X0.trans X3
          refine ⟨mp, wipeE ρ vs, h, v, ρ', R3, (E1.mono X03).wipe vs, r3, eg, fun σ' E' w' => ⟨?_, mp, ρ', h, R3, E', ?_⟩⟩
          · rw [w' vs ho, wipe_sub fun _ hi => hi]
          · split at eq
            · rename_i h3 et
              rw [et]
              intro mp4 y4 H4 R4 X4 r4
              cases r4
              rw [if_pos rfl]
              split at eq
              · rename_i x' h5 ea
                refine ⟨mp4, ρ', h3, R4, E'.mono X4, ?_⟩
                rw [ea]
                intro mp5 y5 H5 R5 X5 r5
                split at eq
                · rename_i y' h6 ee
                  refine ⟨mp5, ρ', h5, R5, (E'.mono X4).mono X5, ?_⟩
                  rw [ee]
                  intro mp6 y6 H6 R6 X6 r6
                  split at eq
                  · rename_i acc k ec ek
                    split at eq
                    · rename_i hz
                      have hn6 := pre_get ((X4.trans X5).trans X6).pre hn
                      obtain ⟨xs, o1, rx⟩ := R6.obj hn6 ec
                      refine ⟨xs, k, keyV_rel ek r5, o1, by rw [← rx.len]; exact hz, ?_⟩
                      obtain ⟨R7, X7⟩ := R6.write (u := .dK (putK xs k y6)) (o := .dic (dput acc k y')) hn6 ⟨_, upd_same, (rx.put k r6).mono (R6.extW _ hn6)⟩
                      exact ⟨mp6, _, R7, (((X03.trans X4).trans X5).trans X6).trans X7, hn6, by rw [hvs]; exact eq⟩
                    · cases eq
                  · cases eq
                · cases eq
              · cases eq
            · rename_i h3 et
              rw [et]
              intro mp4 y4 H4 R4 X4 r4
              cases r4
              rw [if_neg Bool.false_ne_true]
              exact ⟨mp4, h3, R4, X03.trans X4, pre_get X4.pre hn, by rw [hvs]; exact eq⟩
            · cases eq
        · cases eq
      · cases eq
  · exact q1.elim
theorem d_dc {kx vx tg iter : Expr} {ifs : List Expr} {scope : Scope} {it : Iv G} {g : Tg} {o : List Nat} {t : Tv G} {a e : Ev G} (own : List (Str × Nat)) (hi : DI G S tg iter it) (hg : DG G (S.blk scope) tg o g) (ht : DTs G (S.blk scope) ifs t) (ha : DE G (S.blk scope) kx a) (he : DE G (S.blk scope) vx e)
    (ok : blkC S.N S.sc scope own = true := by decide +kernel) (ho : ∀ i ∈ o, i ∈ own.map (·.2) := by decide) (hs : ∀ env x, foldedSetIterable iter env x = pure x := by intro _ _; rfl) : DE G S (.DictComp kx vx [⟨tg, iter, ifs, 0⟩] scope pos) (eDc it g t a e (own.map (·.2))) := fun k T X W C => by
  have ok := blkOk_by ok
  exact (pe_dc (wi := Lft X.K (rI X.K) W (it T)) (g := LftG X.K o g) (tt := Lft X.K rB W0 (t T)) (tk := Lft X.K (rV X.K) W0 (a T)) (tv := Lft X.K (rV X.K) W0 (e T)) C.calm (by rw [C.N]; exact C.nd) (hi k T X W C) (by rw [C.N, C.sc]; exact ok) (fun s H Cc cl fp => hg k T _ _ (C.blk ok.kind s H Cc cl fp)) (fun s H Cc cl fp => ht k T _ _ (C.blk ok.kind s H Cc cl fp))
    (fun s H Cc cl fp => ha k T _ _ (C.blk ok.kind s H Cc cl fp)) (fun s H Cc cl fp => he k T _ _ (C.blk ok.kind s H Cc cl fp)) (hs _)).wk fun σ H Q x => dc_t ho x
/-- d[k] = v, xs[i] = v -/
def intV : Val → Option Int
  | .d (.int i) => some i
  | _ => none
def vPut (a b v : Val) (h : Hh) : Option Hh := match a with
  | .r n => (match h[n]? with
    | some (.dic kvs) => (keyV b).bind fun k => if kvs.length < sizeLine then some (h.set n (.dic (dput kvs k v))) else none
    | some (.lst vs) => (intV b).bind fun i => (ixN vs.length i).map fun j => h.set n (.lst (vs.set j v))
    | _ => none)
  | _ => none
def rPut (K : PySem.W.Frag) : TSet := fun x y z H Q => ∃ mp h a b v h', HRel K mp H h ∧ RVal K mp H a x ∧ RVal K mp H b y ∧ RVal K mp H v z ∧ vPut a b v h = some h' ∧ ∀ mp' H', HRel K mp' H' h' → Ext K mp H mp' H' → Q H'
theorem ok_put {X : Cx} (hu : X.A.units + 1 < cLine) : PSet X (rPut X.K) := by
  intro pins s σ H o i v ov iv u Q I ro ri rv ⟨mp, h, a, b, w, h', R, ra, rb, rw', e, q⟩
  unfold vPut at e
  split at e
  · rename_i n
    cases ra with
    | r hn =>
      split at e
      · rename_i kvs en
        obtain ⟨k, ek, e⟩ := Option.bind_eq_some_iff.mp e
        split at e <;> cases e
        rename_i hz
        obtain ⟨ks, o1, rk⟩ := R.obj hn en
        obtain ⟨R4, X4⟩ := R.write (u := .dK (putK ks k v)) (o := .dic (dput kvs k w)) hn ⟨_, upd_same, (rk.put k rw').mono (R.extW _ hn)⟩
        refine L2.set_dict hu pins s σ H _ i v ov iv u Q I ro ri rv ⟨_, _, rfl, ?_, q mp _ R4 X4⟩
        rw [keyV_rel ek rb]
        exact .k o1 (by rw [← rk.len]; exact hz)
      · rename_i vs en
        obtain ⟨j0, ek, e⟩ := Option.bind_eq_some_iff.mp e
        obtain ⟨j, ej, e⟩ := Option.map_eq_some_iff.mp e
        subst e
        obtain ⟨xs, o1, rk⟩ := R.obj hn en
        obtain ⟨R4, X4⟩ := R.write (u := .lst (xs.set j v)) (o := .lst (vs.set j w)) hn ⟨_, upd_same, (RVals.set rw' j rk).mono (R.extW _ hn)⟩
        unfold intV at ek
        split at ek
        · cases ek
          cases rb with | d rb => cases rb; exact L2.set_list pins s σ H _ _ v ov iv u Q I ro ri rv ⟨_, xs, _, j, rfl, rfl, o1, by rw [← rk.length]; exact ej, q mp _ R4 X4⟩
        · cases ek
      · cases e
  · cases e
def kPut (x y v : Val) : Env → Hh → RS := fun ρ h => match vPut x y v h with
  | some h' => .nx ρ h'
  | none => .bad
def sPut (m a b : Ev G) : Sv G := fun T => sEr (m T) fun v => sEr (a T) fun x => sEr (b T) fun y => kPut x y v
theorem ds_put {o i e : Expr} {p : Pos} {m a b : Ev G} (he : DE G S e m) (ho : DE G S o a) (hi : DE G S i b) (hs : ∀ env : PySem.Env, env.scope = S.sc → env.scope.kind = .function → swapsWithSole [.Subscript o i p] e pos.line env = pure false := by intro env h hk; first | rfl | (cases env; cases h; rfl)) (hw : ∀ env : PySem.Env, env.scope = S.sc → env.scope.kind = .function → swappedStores [.Subscript o i p] e env = pure none := by intro env h hk; first | rfl | (cases env; cases h; rfl))
    (h1 : ∀ env, (assignEach [.Subscript o i p] env).map (·.2) = [assign (.Subscript o i p) env] := by intro _; rfl)
    (hp : ∀ env v, assign (.Subscript o i p) env v = (do
      let ov ← holding [v] (eval o env)
      let iv ← holding [v, ov] (eval i env)
      standAt p
      holding [v, ov, iv] (setItem ov iv v)
      release [v, ov, iv] []) := by intro _ _; rfl) : DS G S (.Assign [.Subscript o i p] e pos) (sPut m a b) := fun k T X W C => by
  refine (ps_asg (he k T X W C) (pg_sub (ho k T X W C) (hi k T X W C) (ok_put (by have := C.un; omega)) (hp _)) (hs _ C.sc (by rw [C.sc]; exact C.kd)) (hw _ C.sc (by rw [C.sc]; exact C.kd)) (h1 _)).wk fun D σ H ⟨mp, ρ, h, R, E, q⟩ => ?_
  refine se_bnd R E q fun v y mp1 h1 H1 X1 R1 E1 r1 q1 => ?_
  refine se_bnd R1 E1 q1 fun x2 y2 mp2 h2 H2 X2 R2 E2 r2 q2 => ?_
  refine se_bnd R2 E2 q2 fun x3 y3 mp3 h3 H3 X3 R3 E3 r3 q3 => ?_
  unfold kPut at q3
  split at q3
  · rename_i h' e
    exact ⟨mp3, h3, x2, x3, v, h', R3, r2.mono X3, r3, r1.mono (X2.trans X3), e, fun mp4 H4 R4 X4 => q3 mp4 σ H4 R4 X4 (E3.mono X4)⟩
  · exact q3.elim
end
end Dq
namespace Dq
open PySem PySem.Spec PyProof.Rows L2
section
variable {G : Gm} {S : Sx} {pos : Pos}
/-- code that the proof never comes to -/
def sBad : Sv G := fun _ _ _ => .bad
theorem ds_never {st : Stmt} : DS G S st (sBad (G := G)) := fun k T X W C => ps_never.wk fun D σ H ⟨mp, ρ, h, R, E, q⟩ => q
theorem dss_never {st : List Stmt} : DSs G S st (sBad (G := G)) := fun k T X W C => pss_never.wk fun D σ H ⟨mp, ρ, h, R, E, q⟩ => q
def eBad : Ev G := fun _ _ _ => .bad
theorem d_never {e : Expr} : DE G S e (eBad (G := G)) := fun k T X W C => ⟨fun pins s σ H Q I ⟨mp, ρ, h, R, E, q⟩ => q.elim⟩

/-! ### own functions called -/
def eFn (f : G.F) (m : Av G) : Ev G := fun T => bnd (m T) fun vs _ h => if vs.length = (G.ps f).length then T f vs h else .bad
theorem d_fn (i : Nat) {x : Str} {f : G.F} {e : Expr} {es : List Expr} {m : Av G} {p : Pos} (ha : DA G S (e :: es) m) (hm : G.fns[i]? = some (x, f) := by rfl) (hg : GlS S x := by rfl) (hdb : (x == ("__debug__" : Str)) = false := by decide)
    (he : ∀ env, starEach (e :: es) env = (false, eval e env) :: starEach es env := by intro _; rfl) (hpl : ∀ env, (backTo pos (starEach es env)).any (·.1) = false := by intro _; rfl) : DE G S (.Call (.Name x p) (e :: es) [] pos) (eFn f m) := fun k T X W C => by
  obtain ⟨g1, g2⟩ := C.g.fn _ (List.mem_of_getElem? hm)
  obtain ⟨fd, F, b⟩ := C.tab f
  refine (pe_callS (E := WE W) F (C.room.mono (Nat.le_succ _)) (C.gl hg) g1 g2 b (passAt C.tk) (ha k T X W C) hdb (he _) (hpl _)).wk fun σ H Q ⟨mp, ρ, h, R, E, q⟩ => ?_
  refine res_bnd R E q fun vs y mp1 h1 H1 X1 R1 E1 r1 q1 => ?_
  split at q1
  · rename_i hl
    refine ⟨mp1, h1, vs, R1, r1, hl, ?_⟩
    cases er : T f vs h1 with
    | ok v h' => rw [er] at q1; exact q1
    | exc c h' => rw [er] at q1; exact q1
    | bad => rw [er] at q1; exact q1
  · exact q1.elim

/-! ### isinstance -/
def tyN (v : Val) (h : Hh) : Option String := match v with
  | .d .non => some "NoneType"
  | .d (.bl _) => some "bool"
  | .d (.int _) => some "int"
  | .d (.str _) => some "str"
  | .d (.tup _) => some "tuple"
  | .t _ => some "tuple"
  | .fz _ => some "list"
  | .r n => (match h[n]? with
    | some (.lst _) => some "list"
    | some (.dic _) => some "dict"
    | _ => none)
def isTy (a b : String) : Bool := a == b || (a == "bool" && b == "int")
def tyL : List String := ["NoneType", "bool", "int", "str", "tuple", "list", "dict"]
theorem kit_all : ∀ a ∈ tyL, ∀ b ∈ ["bool", "int", "str", "tuple", "list", "dict"], kitB a b = some (isTy a b) := by decide +kernel
theorem tyN_mem {v : Val} {h : Hh} {t : String} (e : tyN v h = some t) : t ∈ tyL := by
  unfold tyN at e
  split at e <;> first
    | (cases e; decide)
    | (split at e <;> cases e <;> decide)
theorem sqT_ty {K : PySem.W.Frag} {H : Hp} {a : Addr} {xs : List V} (s : SqT K H a xs) : TyX K H (.ref a) (.type "tuple") := by
  rcases s with (s | ⟨o, s⟩) | ⟨o, its, n, hk, hc, _⟩
  · exact .base (.tup s)
  · exact .fTuple s
  · exact .kTuple hk hc
theorem ty_rel {K : PySem.W.Frag} {mp : List Addr} {H : Hp} {h : Hh} (R : HRel K mp H h) {v : Val} {x : V} {t : String} (r : RVal K mp H v x) (e : tyN v h = some t) : TyX K H x (.type t) := by
  unfold tyN at e
  split at e
  · cases e; cases r with | d r => cases r; exact .base .non
  · cases e; cases r with | d r => cases r; exact .base (.bl _)
  · cases e; cases r with | d r => cases r; exact .base (.int _)
  · cases e; cases r with | d r => cases r; exact .base (.str _)
  · cases e; cases r with | d r => cases r with | tup s _ => exact sqT_ty s
  · cases e; cases r with | t s _ => exact sqT_ty s
  · cases e
    cases r with
    | fz s _ =>
      rcases s with ⟨s | ⟨o, s⟩, _⟩ | ⟨o, its, n, hk, hc, _⟩
      · exact .base (.lst s)
      · exact .base (.frz s)
      · exact .kList hk hc
  · split at e
    · rename_i en
      cases e
      cases r with | r m => obtain ⟨xs, o1, _⟩ := R.obj m en; exact .base (.lst o1)
    · rename_i en
      cases e
      cases r with | r m => obtain ⟨xs, o1, _⟩ := R.obj m en; exact .base (.dK o1)
    · cases e
def vIsi (b : String) (v : Val) (h : Hh) : Option (Val × Hh) := (tyN v h).map fun a => (.d (.bl (isTy a b)), h)
theorem d_isi (b : String) {x : Str} {e : Expr} {m : Ev G} {p p2 : Pos} (he : DE G S e m) (hb : bootBuiltins x = some (.type b) := by first | exact PyProof.Rows.boot_int | exact PyProof.Rows.boot_str | exact PyProof.Rows.boot_bool | exact PyProof.Rows.boot_tuple | exact PyProof.Rows.boot_list | exact PyProof.Rows.boot_dict)
    (hl : b ∈ ["bool", "int", "str", "tuple", "list", "dict"] := by decide) (hg : GlS S "isinstance" := by rfl) (hm : ("isinstance" : Str) ∈ G.blt := by decide +kernel) (hgx : GlS S x := by rfl) (hmx : x ∈ G.blt := by decide +kernel)
    (hn : x ≠ "__name__" := by decide) (hd : (x == ("__debug__" : Str)) = false := by decide)
    (hs : ∀ env, starEach [e, .Name x p2] env = (false, eval e env) :: starEach [.Name x p2] env := by intro _; rfl) (hpl : ∀ env, (backTo pos (starEach [.Name x p2] env)).any (·.1) = false := by intro _; rfl) :
    DE G S (.Call (.Name "isinstance" p) [e, .Name x p2] [] pos) (o1 (vIsi b) m) := fun k T X W C => by
  refine (pe_callB call_isi (C.gl hg) (C.g.bl _ hm) PyProof.Rows.boot_isinstance (pa_cons (he k T X W C) (pa_cons (pe_bltn (v := .ty b) (C.gl hgx) (C.g.bl _ hmx) hb rfl hn hd) pa_nil) (hs _)) (by decide) (by decide) (hs _) (hpl _)).wk fun σ H Q ⟨mp, ρ, h, R, E, q⟩ => ?_
  refine res_bnd R E q fun v y mp1 h1 H1 X1 R1 E1 r1 q1 => ?_
  split at q1
  · rename_i z h' e
    obtain ⟨a, e1, e2⟩ := Option.map_eq_some_iff.mp e
    cases e2
    exact ⟨y, .ty b, _, _, _, rfl, .ty b, ty_rel R1 r1 e1, kit_ty (kit_all a (tyN_mem e1) b hl), q1 mp1 _ H1 R1 .refl (.d (.bl _))⟩
  · exact q1.elim

/-! ### methods of lists and dicts -/
def vApp (a : Val) (vs : List Val) (h : Hh) : Option (Val × Hh) := match a, vs with
  | .r n, [v] => (match h[n]? with
    | some (.lst ws) => if ws.length < sizeLine then some (.d .non, h.set n (.lst (ws ++ [v]))) else none
    | _ => none)
  | _, _ => none
def vExtend (a : Val) (vs : List Val) (h : Hh) : Option (Val × Hh) := match a, vs with
  | .r n, [.r m] => (match h[n]?, h[m]? with
    | some (.lst ws), some (.lst us) => if ws.length + us.length ≤ sizeLine then some (.d .non, h.set n (.lst (ws ++ us))) else none
    | _, _ => none)
  | _, _ => none
def isLst (x : Val) (h : Hh) : Bool := match x with
  | .r n => (match h[n]? with | some (.lst _) => true | _ => false)
  | _ => false
def isDic (x : Val) (h : Hh) : Bool := match x with
  | .r n => (match h[n]? with | some (.dic _) => true | _ => false)
  | _ => false
theorem isLst_rel {K : PySem.W.Frag} {mp : List Addr} {H : Hp} {h : Hh} (R : HRel K mp H h) {x : Val} {v : V} (r : RVal K mp H x v) (e : isLst x h = true) : ∃ a xs, v = .ref a ∧ H a = some (.lst xs) := by
  unfold isLst at e
  split at e
  · split at e
    · rename_i en
      cases r with | r m => obtain ⟨xs, o1, _⟩ := R.obj m en; exact ⟨_, xs, rfl, o1⟩
    · cases e
  · cases e
theorem isDic_rel {K : PySem.W.Frag} {mp : List Addr} {H : Hp} {h : Hh} (R : HRel K mp H h) {x : Val} {v : V} (r : RVal K mp H x v) (e : isDic x h = true) : ∃ a xs, v = .ref a ∧ H a = some (.dK xs) := by
  unfold isDic at e
  split at e
  · split at e
    · rename_i en
      cases r with | r m => obtain ⟨xs, o1, _⟩ := R.obj m en; exact ⟨_, xs, rfl, o1⟩
    · cases e
  · cases e
def oM (c : Val → Hh → Bool) (f : Val → List Val → Hh → Option (Val × Hh)) (ma : Ev G) (mb : Av G) : Ev G := fun T => bnd (ma T) fun x ρ h => if c x h = true then bnd (mb T) (fun y _ h => match f x y h with
  | some (v, h') => .ok v h'
  | none => .bad) ρ h else .bad
theorem d_app {o e : Expr} {ma : Ev G} {mb : Av G} {apos : Pos} (ho : DE G S o ma) (ha : DA G S [e] mb) (hbase : ∀ env, attributeBase o "append" env (eval o env) = eval o env := by intro _; rfl)
    (hfew : ∀ env, ((backTo pos (starEach [e] env)).all (fun x => !x.1) && (backToKw pos (keywordEach [] env)).all (fun x => x.1.isSome)
      && decide (([e] : List Expr).length + ([] : List Keyword).length + (if ([] : List Keyword).isEmpty then 0 else 1) < 30)) = true := by intro _; rfl)
    (hline : (apos.endLine == pos.line) = true := by rfl) (hs : ∀ env, starEach [e] env = (false, eval e env) :: starEach [] env := by intro _; rfl) (hplain : ∀ env, (backTo pos (starEach [] env)).any (·.1) = false := by intro _; rfl) :
    DE G S (.Call (.Attribute o "append" apos) [e] [] pos) (oM isLst vApp ma mb) := fun k T X W C => by
  refine (pe_bm PySem.F.plainAttrs_list PySem.F.slot_list_append PySem.F.type_list_append mt_append (ho k T X W C) (ha k T X W C) (hbase _) (hfew _) hline (hs _) (hplain _)).wk fun σ H Q ⟨mp, ρ, h, R, E, q⟩ => ?_
  refine res_bnd R E q fun v y mp1 h1 H1 X1 R1 E1 r1 q1 => ?_
  split at q1
  · rename_i hc
    obtain ⟨a, xs, rfl, o1⟩ := isLst_rel R1 r1 hc
    refine ⟨.inl ⟨rfl, xs, .of o1⟩, ?_⟩
    refine res_bnd R1 E1 q1 fun vs ys mp2 h2 H2 X2 R2 E2 r2 q2 => ?_
    split at q2
    · rename_i z h' e
      unfold vApp at e
      split at e
      · rename_i n v
        split at e
        · rename_i ws en
          split at e <;> cases e
          rename_i hz
          have r1 := r1.mono X2
          cases r1 with
          | r hn =>
            cases r2 with
            | cons rv rn =>
              cases rn
              obtain ⟨xs, o1, rk⟩ := R2.obj hn en
              obtain ⟨R4, X4⟩ := R2.write (u := .lst (xs ++ [_])) (o := .lst (ws ++ [v])) hn ⟨_, upd_same, (rk.append (.cons rv .nil)).mono (R2.extW _ hn)⟩
              exact ⟨_, xs, _, rfl, rfl, o1, by rw [← rk.length]; exact hz, q2 mp2 _ _ R4 X4 (.d .non)⟩
        · cases e
      · cases e
    · exact q2.elim
  · exact q1.elim
theorem d_ext {o e : Expr} {ma : Ev G} {mb : Av G} {apos : Pos} (ho : DE G S o ma) (ha : DA G S [e] mb) (hbase : ∀ env, attributeBase o "extend" env (eval o env) = eval o env := by intro _; rfl)
    (hfew : ∀ env, ((backTo pos (starEach [e] env)).all (fun x => !x.1) && (backToKw pos (keywordEach [] env)).all (fun x => x.1.isSome)
      && decide (([e] : List Expr).length + ([] : List Keyword).length + (if ([] : List Keyword).isEmpty then 0 else 1) < 30)) = true := by intro _; rfl)
    (hline : (apos.endLine == pos.line) = true := by rfl) (hs : ∀ env, starEach [e] env = (false, eval e env) :: starEach [] env := by intro _; rfl) (hplain : ∀ env, (backTo pos (starEach [] env)).any (·.1) = false := by intro _; rfl) :
    DE G S (.Call (.Attribute o "extend" apos) [e] [] pos) (oM isLst vExtend ma mb) := fun k T X W C => by
  refine (pe_bm PySem.F.plainAttrs_list PySem.F.slot_list_extend PySem.F.type_list_extend mt_extend (ho k T X W C) (ha k T X W C) (hbase _) (hfew _) hline (hs _) (hplain _)).wk fun σ H Q ⟨mp, ρ, h, R, E, q⟩ => ?_
  refine res_bnd R E q fun v y mp1 h1 H1 X1 R1 E1 r1 q1 => ?_
  split at q1
  · rename_i hc
    obtain ⟨a, xs, rfl, o1⟩ := isLst_rel R1 r1 hc
    refine ⟨.inl ⟨rfl, xs, .of o1⟩, ?_⟩
    refine res_bnd R1 E1 q1 fun vs ys mp2 h2 H2 X2 R2 E2 r2 q2 => ?_
    split at q2
    · rename_i z h' e
      unfold vExtend at e
      split at e
      · rename_i n m
        split at e
        · rename_i ws us en em
          split at e <;> cases e
          rename_i hz
          have r1 := r1.mono X2
          cases r1 with
          | r hn =>
            cases r2 with
            | cons rv rn =>
              cases rn
              cases rv with
              | r hm =>
                obtain ⟨xs, o1, rk⟩ := R2.obj hn en
                obtain ⟨zs, o2, rz⟩ := R2.obj hm em
                obtain ⟨R4, X4⟩ := R2.write (u := .lst (xs ++ zs)) (o := .lst (ws ++ us)) hn ⟨_, upd_same, (rk.append rz).mono (R2.extW _ hn)⟩
                exact ⟨_, _, xs, zs, rfl, rfl, o1, o2, by rw [← rk.length, ← rz.length]; exact hz, q2 mp2 _ _ R4 X4 (.d .non)⟩
        · cases e
      · cases e
    · exact q2.elim
  · exact q1.elim
def vGet1 (a b : Val) (h : Hh) : Option (Val × Hh) := match a with
  | .r n => (match h[n]? with
    | some (.dic kvs) => (keyV b).map fun k => ((dget kvs k).getD (.d .non), h)
    | _ => none)
  | _ => none
theorem get_rel {K : PySem.W.Frag} {mp : List Addr} {H : Hp} {kvs : List (Key × Val)} {ks : List (Key × V)} {k : Key} {v : Val} {x : V} (r : RKv K mp H kvs ks) (q : RVal K mp H v x) : RVal K mp H ((dget kvs k).getD v) ((valV ks k).getD x) := by
  obtain ⟨h1, h2⟩ := kv_find k r
  cases e : dget kvs k with
  | none => rw [h2 e]; exact q
  | some w =>
    obtain ⟨y, e1, r1⟩ := h1 w e
    rw [e1]
    exact r1
theorem d_get1 {o e : Expr} {ma mb : Ev G} {apos : Pos} (ho : DE G S o ma) (he : DE G S e mb) (hbase : ∀ env, attributeBase o "get" env (eval o env) = eval o env := by intro _; rfl)
    (hfew : ∀ env, ((backTo pos (starEach [e] env)).all (fun x => !x.1) && (backToKw pos (keywordEach [] env)).all (fun x => x.1.isSome)
      && decide (([e] : List Expr).length + ([] : List Keyword).length + (if ([] : List Keyword).isEmpty then 0 else 1) < 30)) = true := by intro _; rfl)
    (hline : (apos.endLine == pos.line) = true := by rfl) (hs : ∀ env, backTo pos (starEach [e] env) = [(false, eval e env)] := by intro _; rfl) :
    DE G S (.Call (.Attribute o "get" apos) [e] [] pos) (oM isDic (fun a bs h => match bs with | [b] => vGet1 a b h | _ => none) ma (aCons mb aNil)) := fun k T X W C => by
  refine (pe_dget1 (by have := C.un; omega) (ho k T X W C) (he k T X W C) ⟨hbase _, hfew _, hline, hs _⟩).wk fun σ H Q ⟨mp, ρ, h, R, E, q⟩ => ?_
  refine res_bnd R E q fun v y mp1 h1 H1 X1 R1 E1 r1 q1 => ?_
  split at q1
  · rename_i hc
    obtain ⟨a, xs, rfl, o1⟩ := isDic_rel R1 r1 hc
    refine ⟨a, rfl, .inl ⟨xs, .inl o1⟩, ?_⟩
    have q1 : Res X.K (rV X.K) W σ mp1 H1 (bnd (mb T) (fun b _ h => match vGet1 v b h with | some (v, h') => .ok v h' | none => .bad) ρ h1) Q := by
      unfold aCons aNil bnd at q1
      unfold bnd
      cases e : mb T ρ h1 <;> simp only [e] at q1 ⊢ <;> exact q1
    refine res_bnd R1 E1 q1 fun b z mp2 h2 H2 X2 R2 E2 r2 q2 => ?_
    split at q2
    · rename_i w h' e
      unfold vGet1 at e
      split at e
      · rename_i n
        split at e
        · rename_i kvs en
          obtain ⟨k, ek, e⟩ := Option.map_eq_some_iff.mp e
          cases e
          have r1 := r1.mono X2
          cases r1 with
          | r hn =>
            obtain ⟨ks, o2, rk⟩ := R2.obj hn en
            refine ⟨_, ?_, q2 mp2 _ H2 R2 .refl (get_rel (k := k) rk (.d .non))⟩
            rw [keyV_rel ek r2]
            exact .k o2
        · cases e
      · cases e
    · exact q2.elim
  · exact q1.elim
def vGet2 (a b d : Val) (h : Hh) : Option (Val × Hh) := match a with
  | .r n => (match h[n]? with
    | some (.dic kvs) => (keyV b).map fun k => ((dget kvs k).getD d, h)
    | _ => none)
  | _ => none
theorem d_get2 {o e f : Expr} {ma mb mc : Ev G} {apos : Pos} (ho : DE G S o ma) (he : DE G S e mb) (hf : DE G S f mc) (hbase : ∀ env, attributeBase o "get" env (eval o env) = eval o env := by intro _; rfl)
    (hfew : ∀ env, ((backTo pos (starEach [e, f] env)).all (fun x => !x.1) && (backToKw pos (keywordEach [] env)).all (fun x => x.1.isSome)
      && decide (([e, f] : List Expr).length + ([] : List Keyword).length + (if ([] : List Keyword).isEmpty then 0 else 1) < 30)) = true := by intro _; rfl)
    (hline : (apos.endLine == pos.line) = true := by rfl) (hs : ∀ env, backTo pos (starEach [e, f] env) = [(false, eval e env), (false, eval f env)] := by intro _; rfl) :
    DE G S (.Call (.Attribute o "get" apos) [e, f] [] pos) (oM isDic (fun a bs h => match bs with | [b, c] => vGet2 a b c h | _ => none) ma (aCons mb (aCons mc aNil))) := fun k T X W C => by
  refine (pe_dget2 (by have := C.un; omega) (ho k T X W C) (he k T X W C) (hf k T X W C) ⟨hbase _, hfew _, hline, hs _⟩).wk fun σ H Q ⟨mp, ρ, h, R, E, q⟩ => ?_
  refine res_bnd R E q fun v y mp1 h1 H1 X1 R1 E1 r1 q1 => ?_
  split at q1
  · rename_i hc
    obtain ⟨a, xs, rfl, o1⟩ := isDic_rel R1 r1 hc
    refine ⟨a, rfl, .inl ⟨xs, .inl o1⟩, ?_⟩
    have q1 : Res X.K (rV X.K) W σ mp1 H1 (bnd (mb T) (fun b => bnd (mc T) fun c _ h => match vGet2 v b c h with | some (v, h') => .ok v h' | none => .bad) ρ h1) Q := by
      simp only [aCons, aNil, bnd] at q1 ⊢
      cases e : mb T ρ h1 with
      | ok b h2 => cases e2 : mc T ρ h2 <;> simp only [e, e2] at q1 ⊢ <;> exact q1
      | exc c h2 => simp only [e] at q1 ⊢; exact q1
      | bad => simp only [e] at q1; exact q1
    refine res_bnd R1 E1 q1 fun b z mp2 h2 H2 X2 R2 E2 r2 q2 => ?_
    refine res_bnd R2 E2 q2 fun c z3 mp3 h3 H3 X3 R3 E3 r3 q3 => ?_
    split at q3
    · rename_i w h' e
      unfold vGet2 at e
      split at e
      · rename_i n
        split at e
        · rename_i kvs en
          obtain ⟨k, ek, e⟩ := Option.map_eq_some_iff.mp e
          cases e
          have r1 := r1.mono (X2.trans X3)
          cases r1 with
          | r hn =>
            obtain ⟨ks, o2, rk⟩ := R3.obj hn en
            refine ⟨_, ?_, q3 mp3 _ H3 R3 .refl (get_rel (k := k) rk r3)⟩
            rw [keyV_rel ek (r2.mono X3)]
            exact .k o2
        · cases e
      · cases e
    · exact q3.elim
  · exact q1.elim
/-- T.get(e), T a written dict with text keys: a key that stands in it -/
def eTGet (tb : List (Str × D)) (m : Ev G) : Ev G := fun T => bnd (m T) fun v _ h => match v with
  | .d (.str z) => (match tb.lookup z with
    | some d => .ok (.d d) h
    | none => .bad)
  | _ => .bad
theorem lookup_mem {α : Type} {z : Str} {d : α} : ∀ {l : List (Str × α)}, l.lookup z = some d → (z, d) ∈ l
  | [], h => by cases h
  | (y, e) :: l, h => by
    rw [List.lookup_cons] at h
    split at h
    · rename_i hz
      cases h
      rw [eq_of_beq hz]
      exact List.mem_cons_self ..
    · exact List.mem_cons_of_mem _ (lookup_mem h)
theorem d_tget (i : Nat) {x : Str} {tb : List (Str × D)} {e : Expr} {m : Ev G} {p apos : Pos} (he : DE G S e m) (hm : G.tbs[i]? = some (x, tb) := by rfl) (hg : GlS S x := by rfl) (hdb : (x == ("__debug__" : Str)) = false := by decide) (hbase : ∀ env, attributeBase (.Name x p) "get" env (eval (.Name x p) env) = eval (.Name x p) env := by intro _; rfl)
    (hfew : ∀ env, ((backTo pos (starEach [e] env)).all (fun x => !x.1) && (backToKw pos (keywordEach [] env)).all (fun x => x.1.isSome)
      && decide (([e] : List Expr).length + ([] : List Keyword).length + (if ([] : List Keyword).isEmpty then 0 else 1) < 30)) = true := by intro _; rfl)
    (hline : (apos.endLine == pos.line) = true := by rfl) (hs : ∀ env, backTo pos (starEach [e] env) = [(false, eval e env)] := by intro _; rfl) :
    DE G S (.Call (.Attribute (.Name x p) "get" apos) [e] [] pos) (eTGet tb m) := fun k T X W C => by
  obtain ⟨a, es, n, g1, kd, g2⟩ := C.g.tbs _ (List.mem_of_getElem? hm)
  refine ⟨fun pins s σ H Q I ⟨mp, ρ, h, R, E, q⟩ => ?_⟩
  refine wpAny_Call_method (hbase _) (hfew _) hline PySem.F.plainAttrs_dict PySem.F.slot_dict_get PySem.F.type_dict_get ?_
  refine thn ((pe_glob (v := .ref a) (C.gl hg) g1 rfl hdb).run pins s σ H (fun v H1 => v = .ref a ∧ H1 = H) I ⟨rfl, rfl⟩) fun u s1 ⟨v, H1, I1, r1, ev, eH⟩ => ?_
  subst ev eH
  obtain rfl : u = Value.ref a := r1
  refine ⟨kd_type kd I1, fun b eb => ?_, ?_⟩
  · cases eb
    exact ⟨_, I1.kIn a _ kd.at_, rfl⟩
  · rw [hs]
    have z : Lft X.K (rV X.K) W (m T) σ H1 fun y H2 => ∃ x u0 v0, y = .str x ∧ PySem.W.nsIn X.K a x = some (some u0) ∧ RelV v0 u0 ∧ Q v0 H2 := by
      refine res_bnd R E q fun v y mp1 h1 H2 X1 R1 E1 r1 q1 => ?_
      split at q1
      · rename_i zz
        split at q1
        · rename_i d ed
          cases r1 with
          | d r1 =>
            cases r1
            obtain ⟨v0, u0, e1, e2, e3⟩ := g2 _ (lookup_mem ed)
            exact ⟨zz, u0, v0, rfl, e1, e2, q1 mp1 _ H2 R1 .refl (.d (e3 H2))⟩
        · exact q1.elim
      · exact q1.elim
    refine Calls.callWith_builtin rfl (Calls.evalArgs_plain (Calls.spliced_cons (thn ((he k T X W C).run pins s1 σ H1 _ I1 z) fun iv s2 ⟨y, H2, I2, ry, x, u0, v0, ey, en, er, q2⟩ => Calls.spliced_nil ?_)))
    subst ey
    obtain ⟨t, rfl⟩ := ry
    refine call_meetsIn PySem.F.slot_dict_get (kd_type kd I2) PySem.F.entry_dict_get (PySem.F.args_dict_get_2 _ _) (meets_dict_get (PySem.strKind X.prog X.w) a (PySem.strKind_is X.prog X.w x t) kd.low) ⟨_, PySem.W.mapOf_K (prog := X.prog) I2.kIn kd.at_ kd.lit, ?_⟩
    rw [PySem.W.find_K kd.at_ en]
    exact ⟨v0, H2, I2.tok _, er, q2⟩

/-! ### exceptions -/
def sRaise (c : Str) : Sv G := fun _ ρ h => .exc c ρ h
theorem Ctx.exC {k : Nat} {T : Tab G} {X : Cx} {W : WX} (C : Ctx G S k T X W) {x m : Str} {j : Nat} {p p2 p3 : Pos} (hm : x ∈ G.exs) (hg : GlS S x) (hdb : (x == ("__debug__" : Str)) = false) : PMk X (.Call (.Name x p) [.Constant (.str m) j p2] [] p3) (fun _ H Q => Q (.ref (He.ga X.K x)) none H) := by
  obtain ⟨g1, g2⟩ := C.g.exs x hm
  obtain ⟨c1, c2, c3, c4⟩ := He.exc_ok g2
  exact L2.pmk_own PySem.F.excBase_ValueError c1 g1 c2 (L2.raises_own c3 c4) (C.gl hg) hdb
theorem ds_raise {x m : Str} {j : Nat} {p p2 p3 : Pos} (hm : x ∈ G.exs := by decide +kernel) (hg : GlS S x := by rfl) (hdb : (x == ("__debug__" : Str)) = false := by decide) : DS G S (.Raise (some (.Call (.Name x p) [.Constant (.str m) j p2] [] p3)) none pos) (sRaise (G := G) x) := fun k T X W C =>
  (L2.ps_raise C.calm C.tk (C.exC hm hg hdb)).wk fun D σ H ⟨mp, ρ, h, R, E, q⟩ => q none mp σ H R .refl E
def exLook (l : List (Str × Str × Bool)) (e c : Str) : Option Bool := (l.find? fun p => p.1 == e && p.2.1 == c).map (·.2.2)
theorem exLook_mem {l : List (Str × Str × Bool)} {e c : Str} {b : Bool} (h : exLook l e c = some b) : (e, c, b) ∈ l := by
  obtain ⟨⟨e', c', b'⟩, h1, h2⟩ := Option.map_eq_some_iff.mp h
  have h3 := List.find?_some h1
  simp only [Bool.and_eq_true, beq_iff_eq] at h3
  obtain ⟨rfl, rfl⟩ := h3
  have h2 : b' = b := h2
  subst h2
  exact List.mem_of_find?_eq_some h1
/-- try: .. except c: return d -/
def sTryR (m : Sv G) (c : Str) (d : D) : Sv G := fun T ρ h => match m T ρ h with
  | .exc e ρ' h' => (match exLook G.exm e c with
    | some true => .rt (.d d) h'
    | some false => .exc e ρ' h'
    | none => .bad)
  | r => r
def cD : Const → Option D
  | .none => some .non
  | .bool b => some (.bl b)
  | .int i => some (.int i)
  | .str x => some (.str x)
  | _ => none
theorem cD_rel {X : Cx} {c : Const} {d : D} {j : Nat} {p : Pos} (e : cD c = some d) : PE X (.Constant c j p) (fun σ H Q => ∀ v, (∀ H, RD X.K H d v) → Q v H) := by
  unfold cD at e
  split at e <;> cases e
  · exact pe_non.wk fun σ H Q h => h _ fun _ => .non
  · exact pe_bl.wk fun σ H Q h => h _ fun _ => .bl _
  · exact pe_int.wk fun σ H Q h => h _ fun _ => .int _
  · exact pe_str.wk fun σ H Q h => h _ fun _ => .str _
theorem Ctx.tr {k : Nat} {T : Tab G} {X : Cx} {W W' : WX} (C : Ctx G S k T X W) (pn : List (Addr × Obj)) (xe : Value → Shared → Prop) (tk : Takes (X.tr pn xe) W') (po : PassesOwn (model X.prog X.w) X.A X.env xe) : Ctx G S k T (X.tr pn xe) W' :=
  ⟨C.N, C.nd, C.sc, C.kd, C.calm, C.room, C.g, C.tab, tk, C.fb, po, C.full⟩
theorem ds_try {x : Str} {body : List Stmt} {m : Sv G} {c : Const} {d : D} {j : Nat} {np p p1 p2 : Pos} (hb : DSs G S body m) (hd : cD c = some d := by rfl) (hm : x ∈ G.exs := by decide +kernel) (hg : GlS S x := by rfl) (hdb : (x == ("__debug__" : Str)) = false := by decide) (hf : S.full = true := by rfl) :
    DS G S (.Try body [.ExceptHandler (some (.Name x np)) none [.Return (some (.Constant c j p)) p1] p2] [] [] pos) (sTryR m x d) := fun k T X W C => by
  obtain ⟨f1, f2, f3⟩ := C.full hf
  obtain ⟨g1, g2⟩ := C.g.exs x hm
  refine (ps_try_only (Wout := W) (c := .ref (He.ga X.K x)) (tb := fun W' => LftS X.K W' (m T)) (ts := fun a cls d' => fun D σ H => ∀ v, (∀ H, RD X.K H d v) → D.rt v H) f1 f2 ⟨C.gl hg, hdb, .inl g1⟩ C.tk (fun W' pn xe tk po => hb k T _ _ (C.tr pn xe tk po)) (fun a oe cls d' pn _ _ => pss_one ((ps_ret (cD_rel hd)).wk fun D σ H h => h))).wk fun D σ H ⟨mp, ρ, h, R, E, q⟩ => ⟨mp, ρ, h, R, E, ?_⟩
  unfold sTryR at q
  cases e : m T ρ h with
  | exc c' ρ' h' =>
    rw [e] at q
    simp only at q
    intro dd mp' σ' H' R' X' E'
    cases el : exLook G.exm c' x with
    | none => rw [el] at q; exact q.elim
    | some b =>
      rw [el] at q
      refine ⟨b, C.g.exm _ (exLook_mem el), fun hb a ha v rv => ?_, fun hb => ?_⟩
      · subst hb
        exact q mp' v H' R' X' (.d (rv H'))
      · subst hb
        exact q dd mp' σ' H' R' X' E'
  | nx ρ' h' => rw [e] at q; exact q
  | rt v h' => rw [e] at q; exact q
  | bk v h' => rw [e] at q; exact q
  | ct v h' => rw [e] at q; exact q
  | bad => rw [e] at q; exact q
end
end Dq
namespace Dq
open PySem PySem.Spec PyProof.Rows L2

/-! ### texts in order -/
theorem lt_asym : ∀ {a b : List Nat}, ltCps a b = false → ltCps b a = false → a = b
  | [], [], _, _ => rfl
  | [], _ :: _, h, _ => by cases h
  | _ :: _, [], _, h => by cases h
  | a :: r, b :: t, h, h' => by
    simp only [ltCps, Bool.or_eq_false_iff, decide_eq_false_iff_not, Bool.and_eq_false_iff, beq_eq_false_iff_ne] at h h'
    have e : a = b := by omega
    subst e
    have h1 : ltCps r t = false := by rcases h.2 with z | z; exact absurd rfl z; exact z
    have h2 : ltCps t r = false := by rcases h'.2 with z | z; exact absurd rfl z; exact z
    rw [lt_asym h1 h2]
theorem le_tr : ∀ {a b c : List Nat}, ltCps b a = false → ltCps c b = false → ltCps c a = false
  | _, _, [], _, _ => by
    rename_i a b h h'
    cases a with
    | nil => rfl
    | cons x r =>
      cases b with
      | nil => cases h
      | cons y t => cases h'
  | [], _, _ :: _, _, _ => rfl
  | a :: r, [], _ :: _, h, _ => by cases h
  | a :: r, b :: t, c :: u, h, h' => by
    simp only [ltCps, Bool.or_eq_false_iff, decide_eq_false_iff_not, Bool.and_eq_false_iff, beq_eq_false_iff_ne] at h h' ⊢
    refine ⟨by omega, ?_⟩
    by_cases e : c = a
    · subst e
      have e2 : b = c := by omega
      subst e2
      refine .inr (le_tr (b := t) ?_ ?_)
      · rcases h.2 with z | z; exact absurd rfl z; exact z
      · rcases h'.2 with z | z; exact absurd rfl z; exact z
    · exact .inl e
theorem le_tot : ∀ a b : List Nat, ltCps b a = false ∨ ltCps a b = false
  | [], [] => .inl rfl
  | [], _ :: _ => .inl rfl
  | _ :: _, [] => .inr rfl
  | a :: r, b :: t => by
    simp only [ltCps, Bool.or_eq_false_iff, decide_eq_false_iff_not, Bool.and_eq_false_iff, beq_eq_false_iff_ne]
    rcases Nat.lt_trichotomy a b with e | e | e
    · exact .inl ⟨by omega, .inl (by omega)⟩
    · subst e
      rcases le_tot r t with z | z
      · exact .inl ⟨by omega, .inr z⟩
      · exact .inr ⟨by omega, .inr z⟩
    · exact .inr ⟨by omega, .inl (by omega)⟩
def leS (a b : Str) : Bool := !ltCps b.cps.toList a.cps.toList
theorem leS_iff {a b : Str} : leS a b = true ↔ ltCps b.cps.toList a.cps.toList = false := by unfold leS; simp
theorem str_ext {a b : Str} (h : a.cps.toList = b.cps.toList) : a = b := by
  obtain ⟨⟨a⟩⟩ := a
  obtain ⟨⟨b⟩⟩ := b
  have h : a = b := h
  rw [h]
def srtS (ks : List Str) : List Str := ks.mergeSort leS
theorem rising_pw : ∀ {p : Str} {r : List Str}, risingS p r = true → (∀ x ∈ r, leS p x = true) ∧ r.Pairwise (fun a b => leS a b = true)
  | p, [], _ => ⟨fun x h => absurd h (List.not_mem_nil), List.Pairwise.nil⟩
  | p, x :: r, h => by
    unfold risingS at h
    simp only [Bool.and_eq_true] at h
    obtain ⟨h1, h2⟩ := rising_pw h.2
    refine ⟨fun y hy => ?_, List.pairwise_cons.mpr ⟨h1, h2⟩⟩
    rcases List.mem_cons.mp hy with e | e
    · subst e
      exact h.1
    · have z := h1 y e
      rw [leS_iff] at z ⊢
      exact le_tr (by simpa using h.1) z
theorem sorted_pw {ys : List Str} (h : sortedS ys = true) : ys.Pairwise (fun a b => leS a b = true) := by
  cases ys with
  | nil => exact List.Pairwise.nil
  | cons x r => obtain ⟨h1, h2⟩ := rising_pw h; exact List.pairwise_cons.mpr ⟨h1, h2⟩
theorem pw_eq {ys ks : List Str} (hp : ys.Perm ks) (h : ys.Pairwise (fun a b => leS a b = true)) : ys = srtS ks := by
  refine List.Perm.eq_of_pairwise (le := fun a b => leS a b = true) (fun a b _ _ h1 h2 => ?_) h (List.pairwise_mergeSort (fun a b c h1 h2 => ?_) (fun a b => ?_) ks) (hp.trans (List.mergeSort_perm ks leS).symm)
  · rw [leS_iff] at h1 h2
    exact str_ext (lt_asym h2 h1)
  · rw [leS_iff] at h1 h2 ⊢
    exact le_tr h1 h2
  · rw [Bool.or_eq_true, leS_iff, leS_iff]
    exact le_tot _ _
theorem sorted_eq {ys ks : List Str} (hp : ys.Perm ks) (h : sortedS ys = true) : ys = srtS ks := pw_eq hp (sorted_pw h)
def srtI (ks : List Int) : List Int := ks.mergeSort fun a b => decide (a ≤ b)
theorem sortedI_eq {ys ks : List Int} (hp : ys.Perm ks) (h : ys.Pairwise (· ≤ ·)) : ys = srtI ks := by
  have h' : ys.Pairwise (fun a b => decide (a ≤ b) = true) := h.imp fun {a b} z => decide_eq_true z
  refine List.Perm.eq_of_pairwise (le := fun a b => decide (a ≤ b) = true) (fun a b _ _ h1 h2 => ?_) h' (List.pairwise_mergeSort (fun a b c h1 h2 => ?_) (fun a b => ?_) ks) (hp.trans (List.mergeSort_perm ks _).symm)
  · simp only [decide_eq_true_eq] at h1 h2
    omega
  · simp only [decide_eq_true_eq] at h1 h2 ⊢
    omega
  · simp only [Bool.or_eq_true, decide_eq_true_eq]
    omega

/-! ### built-in functions -/
def rc (K : PySem.W.Frag) (c : List Val → Hh → Option (Val × Hh)) : List V → Hp → VK → Prop := fun xs H Q => ∃ mp h vs v h', HRel K mp H h ∧ RVals K mp H vs xs ∧ c vs h = some (v, h') ∧
  ∀ mp' z H', HRel K mp' H' h' → Ext K mp H mp' H' → RVal K mp' H' v z → Q z H'
def eB (c : List Val → Hh → Option (Val × Hh)) (m : Av G) : Ev G := fun T => bnd (m T) fun vs _ h => match c vs h with
  | some (v, h') => .ok v h'
  | none => .bad
section
variable {G : Gm} {S : Sx} {pos : Pos}
theorem d_blt {x : Str} {id : String} {c : List Val → Hh → Option (Val × Hh)} {e : Expr} {es : List Expr} {m : Av G} {p : Pos} (hc : ∀ k T X W, Ctx G S k T X W → CallR X (.builtin id) (rc X.K c)) (hv : bootBuiltins x = some (.builtin id)) (ha : DA G S (e :: es) m) (hg : GlS S x := by rfl) (hm : x ∈ G.blt := by decide +kernel)
    (hn : x ≠ "__name__" := by decide) (hd : (x == ("__debug__" : Str)) = false := by decide)
    (he : ∀ env, starEach (e :: es) env = (false, eval e env) :: starEach es env := by intro _; rfl) (hpl : ∀ env, (backTo pos (starEach es env)).any (·.1) = false := by intro _; rfl) : DE G S (.Call (.Name x p) (e :: es) [] pos) (eB c m) := fun k T X W C => by
  refine (pe_callB (hc k T X W C) (C.gl hg) (C.g.bl _ hm) hv (ha k T X W C) hn hd (he _) (hpl _)).wk fun σ H Q ⟨mp, ρ, h, R, E, q⟩ => ?_
  refine res_bnd R E q fun v y mp1 h1 H1 X1 R1 E1 r1 q1 => ?_
  split at q1
  · rename_i z h' e
    exact ⟨mp1, h1, v, z, h', R1, r1, e, q1⟩
  · exact q1.elim
theorem d_ty {x : Str} {id : String} {c : List Val → Hh → Option (Val × Hh)} {e : Expr} {es : List Expr} {m : Av G} {p : Pos} (hc : ∀ k T X W, Ctx G S k T X W → CallR X (.type id) (rc X.K c)) (hv : bootBuiltins x = some (.type id)) (ha : DA G S (e :: es) m) (hg : GlS S x := by rfl) (hm : x ∈ G.blt := by decide +kernel)
    (hn : x ≠ "__name__" := by decide) (hd : (x == ("__debug__" : Str)) = false := by decide)
    (he : ∀ env, starEach (e :: es) env = (false, eval e env) :: starEach es env := by intro _; rfl) (hpl : ∀ env, (backTo pos (starEach es env)).any (·.1) = false := by intro _; rfl) : DE G S (.Call (.Name x p) (e :: es) [] pos) (eB c m) := fun k T X W C => by
  refine (pe_callTy (hc k T X W C) (C.gl hg) (C.g.bl _ hm) hv (ha k T X W C) hn hd (he _) (hpl _)).wk fun σ H Q ⟨mp, ρ, h, R, E, q⟩ => ?_
  refine res_bnd R E q fun v y mp1 h1 H1 X1 R1 E1 r1 q1 => ?_
  split at q1
  · rename_i z h' e
    exact ⟨mp1, h1, v, z, h', R1, r1, e, q1⟩
  · exact q1.elim
end
section
variable {X : Cx}
def lenB (v : Val) (h : Hh) : Option Nat := match v with
  | .d (.str z) => if z.length ≤ sizeLine then some z.length else none
  | .r n => (match h[n]? with
    | some (.lst vs) => some vs.length
    | some (.dic kvs) => some kvs.length
    | _ => none)
  | v => (seqOf v h).map List.length
def cLen : List Val → Hh → Option (Val × Hh)
  | [v], h => (lenB v h).map fun (n : Nat) => (.d (.int (n : Int)), h)
  | _, _ => none
theorem ok_len : CallR X (.builtin "len") (rc X.K cLen) := by
  intro pins s σ H xs us Q I r ⟨mp, h, vs, v, h', R, rs, e, q⟩
  unfold cLen at e
  split at e
  · rename_i v
    obtain ⟨n, e1, e2⟩ := Option.map_eq_some_iff.mp e
    cases e2
    cases rs with
    | cons ra rn =>
      cases rn
      have q' := q mp (.int (n : Int)) H R .refl (.d (.int _))
      have seq : ∀ {v : Val} {x : V} {us : List Value} {vs : List Val}, RVal X.K mp H v x → Vals [x] us → seqOf v h = some vs → vs.length = n → wpAny (model X.prog X.w) X.A (call (.builtin "len") us) (EP X pins σ Q) X.xe s := fun {v x us vs} ra r es hl => by
        obtain ⟨p, ys, ex, hs, ry⟩ := seq_rel R ra es
        subst ex
        refine call_len pins s σ H _ us Q I r ⟨_, n, rfl, ?_, q'⟩
        rcases hs with hs | hs
        · exact .inl ⟨ys, hs, by rw [← ry.length]; exact hl.symm⟩
        · exact .inr ⟨ys, hs, by rw [← ry.length]; exact hl.symm⟩
      unfold lenB at e1
      split at e1
      · split at e1 <;> cases e1
        rename_i hl
        cases ra with | d ra => cases ra; exact call_len pins s σ H _ us Q I r ⟨_, _, rfl, ⟨hl, rfl⟩, q'⟩
      · split at e1
        · rename_i vs en
          cases e1
          exact seq ra r (by unfold seqOf; simp [en]) rfl
        · rename_i kvs en
          cases e1
          cases ra with
          | r m =>
            obtain ⟨ks, o1, rk⟩ := R.obj m en
            exact call_lenD pins s σ H _ us Q I r ⟨_, ks, rfl, o1, by rw [← rk.len]; exact q'⟩
        · cases e1
      · obtain ⟨vs, e2, e3⟩ := Option.map_eq_some_iff.mp e1
        exact seq ra r e2 e3
  · cases e
def cAbs : List Val → Hh → Option (Val × Hh)
  | [.d (.int i)], h => some (.d (.int (if i < 0 then -i else i)), h)
  | _, _ => none
theorem ok_abs : CallR X (.builtin "abs") (rc X.K cAbs) := by
  intro pins s σ H xs us Q I r ⟨mp, h, vs, v, h', R, rs, e, q⟩
  unfold cAbs at e
  split at e
  · cases e
    cases rs with | cons ra rn => cases rn; cases ra with | d ra => cases ra; exact call_abs pins s σ H _ us Q I r ⟨_, rfl, q mp _ H R .refl (.d (.int _))⟩
  · cases e
def intsA : List Val → Option (List Int)
  | [] => some []
  | .d (.int i) :: vs => (intsA vs).map (i :: ·)
  | _ => none
theorem intsA_rel {K : PySem.W.Frag} {mp : List Addr} {H : Hp} : ∀ {vs : List Val} {xs : List V} {ns : List Int}, RVals K mp H vs xs → intsA vs = some ns → xs = ns.map V.int
  | [], _, _, .nil, e => by cases e; rfl
  | .d (.int i) :: vs, _, _, .cons (.d (.int _)) b, e => by
    obtain ⟨ms, e1, rfl⟩ := Option.map_eq_some_iff.mp e
    rw [intsA_rel b e1]; rfl
  | .d .non :: _, _, _, _, e => by cases e
  | .d (.bl _) :: _, _, _, _, e => by cases e
  | .d (.str _) :: _, _, _, _, e => by cases e
  | .d (.tup _) :: _, _, _, _, e => by cases e
  | .r _ :: _, _, _, _, e => by cases e
  | .t _ :: _, _, _, _, e => by cases e
  | .fz _ :: _, _, _, _, e => by cases e
def strsA : List Val → Option (List Str)
  | [] => some []
  | .d (.str i) :: vs => (strsA vs).map (i :: ·)
  | _ => none
theorem strsA_rel {K : PySem.W.Frag} {mp : List Addr} {H : Hp} : ∀ {vs : List Val} {xs : List V} {ns : List Str}, RVals K mp H vs xs → strsA vs = some ns → xs = ns.map V.str
  | [], _, _, .nil, e => by cases e; rfl
  | .d (.str i) :: vs, _, _, .cons (.d (.str _)) b, e => by
    obtain ⟨ms, e1, rfl⟩ := Option.map_eq_some_iff.mp e
    rw [strsA_rel b e1]; rfl
  | .d .non :: _, _, _, _, e => by cases e
  | .d (.bl _) :: _, _, _, _, e => by cases e
  | .d (.int _) :: _, _, _, _, e => by cases e
  | .d (.tup _) :: _, _, _, _, e => by cases e
  | .r _ :: _, _, _, _, e => by cases e
  | .t _ :: _, _, _, _, e => by cases e
  | .fz _ :: _, _, _, _, e => by cases e
def blsA : List Val → Option (List Bool)
  | [] => some []
  | .d (.bl i) :: vs => (blsA vs).map (i :: ·)
  | _ => none
theorem blsA_rel {K : PySem.W.Frag} {mp : List Addr} {H : Hp} : ∀ {vs : List Val} {xs : List V} {ns : List Bool}, RVals K mp H vs xs → blsA vs = some ns → xs = ns.map V.bl
  | [], _, _, .nil, e => by cases e; rfl
  | .d (.bl i) :: vs, _, _, .cons (.d (.bl _)) b, e => by
    obtain ⟨ms, e1, rfl⟩ := Option.map_eq_some_iff.mp e
    rw [blsA_rel b e1]; rfl
  | .d .non :: _, _, _, _, e => by cases e
  | .d (.str _) :: _, _, _, _, e => by cases e
  | .d (.int _) :: _, _, _, _, e => by cases e
  | .d (.tup _) :: _, _, _, _, e => by cases e
  | .r _ :: _, _, _, _, e => by cases e
  | .t _ :: _, _, _, _, e => by cases e
  | .fz _ :: _, _, _, _, e => by cases e
/-- a list's items -/
def lstOf (v : Val) (h : Hh) : Option (List Val) := match v with
  | .fz ds => some (ds.map .d)
  | .r n => (match h[n]? with
    | some (.lst vs) => some vs
    | _ => none)
  | _ => none
theorem lst_rel {K : PySem.W.Frag} {mp : List Addr} {H : Hp} {h : Hh} (R : HRel K mp H h) {v : Val} {x : V} {vs : List Val} (r : RVal K mp H v x) (e : lstOf v h = some vs) : ∃ a xs, x = .ref a ∧ SqL K H a xs ∧ RVals K mp H vs xs := by
  unfold lstOf at e
  split at e
  · cases e
    cases r with | fz s r => exact ⟨_, _, rfl, s.sq, r.vals⟩
  · split at e
    · rename_i n vs' e1
      cases e
      cases r with
      | r m =>
        obtain ⟨xs, q, z⟩ := R.obj m e1
        exact ⟨_, xs, rfl, .of q, z⟩
    · cases e
  · cases e
def cSum : List Val → Hh → Option (Val × Hh)
  | [v], h => ((lstOf v h).bind intsA).map fun ns => (.d (.int ns.sum), h)
  | _, _ => none
theorem one_lst {α : Type} {f : List Val → Option α} {v : Val} {h : Hh} {a : α} (e : (lstOf v h).bind f = some a) : ∃ vs, lstOf v h = some vs ∧ f vs = some a := Option.bind_eq_some_iff.mp e
theorem ok_sum (hc : X.calm = true) : CallR X (.builtin "sum") (rc X.K cSum) := by
  intro pins s σ H xs us Q I r ⟨mp, h, vs, v, h', R, rs, e, q⟩
  unfold cSum at e
  split at e
  · obtain ⟨ns, e1, e2⟩ := Option.map_eq_some_iff.mp e
    cases e2
    obtain ⟨ws, e3, e4⟩ := one_lst e1
    cases rs with
    | cons ra rn =>
      cases rn
      obtain ⟨p, ys, rfl, hs, ry⟩ := lst_rel R ra e3
      rw [intsA_rel ry e4] at hs
      exact cr_sum hc pins s σ H _ us Q I r ⟨p, ns, rfl, hs, q mp _ H R .refl (.d (.int _))⟩
  · cases e
def cAll : List Val → Hh → Option (Val × Hh)
  | [v], h => ((lstOf v h).bind blsA).map fun ns => (.d (.bl (ns.all id)), h)
  | _, _ => none
def cAny : List Val → Hh → Option (Val × Hh)
  | [v], h => ((lstOf v h).bind blsA).map fun ns => (.d (.bl (ns.any id)), h)
  | _, _ => none
theorem ok_all (hc : X.calm = true) : CallR X (.builtin "all") (rc X.K cAll) := by
  intro pins s σ H xs us Q I r ⟨mp, h, vs, v, h', R, rs, e, q⟩
  unfold cAll at e
  split at e
  · obtain ⟨ns, e1, e2⟩ := Option.map_eq_some_iff.mp e
    cases e2
    obtain ⟨ws, e3, e4⟩ := one_lst e1
    cases rs with
    | cons ra rn =>
      cases rn
      obtain ⟨p, ys, rfl, hs, ry⟩ := lst_rel R ra e3
      rw [blsA_rel ry e4] at hs
      exact cr_all hc pins s σ H _ us Q I r ⟨p, ns, rfl, hs, q mp _ H R .refl (.d (.bl _))⟩
  · cases e
theorem ok_any (hc : X.calm = true) : CallR X (.builtin "any") (rc X.K cAny) := by
  intro pins s σ H xs us Q I r ⟨mp, h, vs, v, h', R, rs, e, q⟩
  unfold cAny at e
  split at e
  · obtain ⟨ns, e1, e2⟩ := Option.map_eq_some_iff.mp e
    cases e2
    obtain ⟨ws, e3, e4⟩ := one_lst e1
    cases rs with
    | cons ra rn =>
      cases rn
      obtain ⟨p, ys, rfl, hs, ry⟩ := lst_rel R ra e3
      rw [blsA_rel ry e4] at hs
      exact cr_any hc pins s σ H _ us Q I r ⟨p, ns, rfl, hs, q mp _ H R .refl (.d (.bl _))⟩
  · cases e
def cMax : List Val → Hh → Option (Val × Hh)
  | [.d (.int i), .d (.int j)], h => some (.d (.int (if j > i then j else i)), h)
  | _, _ => none
def cMin : List Val → Hh → Option (Val × Hh)
  | [.d (.int i), .d (.int j)], h => some (.d (.int (if j < i then j else i)), h)
  | _, _ => none
theorem ok_max (hc : X.calm = true) : CallR X (.builtin "max") (rc X.K cMax) := by
  intro pins s σ H xs us Q I r ⟨mp, h, vs, v, h', R, rs, e, q⟩
  unfold cMax at e
  split at e
  · cases e
    cases rs with | cons ra rn => cases rn with | cons rb rn => cases rn; cases ra with | d ra => cases ra; cases rb with | d rb => cases rb; exact call_max2 hc pins s σ H _ us Q I r ⟨_, _, rfl, q mp _ H R .refl (.d (.int _))⟩
  · cases e
theorem ok_min (hc : X.calm = true) : CallR X (.builtin "min") (rc X.K cMin) := by
  intro pins s σ H xs us Q I r ⟨mp, h, vs, v, h', R, rs, e, q⟩
  unfold cMin at e
  split at e
  · cases e
    cases rs with | cons ra rn => cases rn with | cons rb rn => cases rn; cases ra with | d ra => cases ra; cases rb with | d rb => cases rb; exact call_min2 hc pins s σ H _ us Q I r ⟨_, _, rfl, q mp _ H R .refl (.d (.int _))⟩
  · cases e
def cInt : List Val → Hh → Option (Val × Hh)
  | [.d (.int i)], h => some (.d (.int i), h)
  | [.d (.bl b)], h => some (.d (.int (if b then 1 else 0)), h)
  | _, _ => none
theorem ok_int : CallR X (.type "int") (rc X.K cInt) := by
  intro pins s σ H xs us Q I r ⟨mp, h, vs, v, h', R, rs, e, q⟩
  unfold cInt at e
  split at e
  · cases e
    cases rs with | cons ra rn => cases rn; cases ra with | d ra => cases ra; exact call_int1 pins s σ H _ us Q I r (.inl ⟨_, rfl, q mp _ H R .refl (.d (.int _))⟩)
  · cases e
    cases rs with | cons ra rn => cases rn; cases ra with | d ra => cases ra; exact call_int1 pins s σ H _ us Q I r (.inr ⟨_, rfl, q mp _ H R .refl (.d (.int _))⟩)
  · cases e
def cStr : List Val → Hh → Option (Val × Hh)
  | [.d (.int i)], h => if i.natAbs.log2 < 1920 then some (.d (.str (toString i)), h) else none
  | _, _ => none
theorem ok_str : CallR X (.type "str") (rc X.K cStr) := by
  intro pins s σ H xs us Q I r ⟨mp, h, vs, v, h', R, rs, e, q⟩
  unfold cStr at e
  split at e
  · split at e <;> cases e
    rename_i hc
    cases rs with | cons ra rn => cases rn; cases ra with | d ra => cases ra; exact call_str_int pins s σ H _ us Q I r ⟨_, rfl, hc, q mp _ H R .refl (.d (.str _))⟩
  · cases e
def cTuple : List Val → Hh → Option (Val × Hh)
  | [v], h => (match tupOf v with
    | some _ => some (v, h)
    | none => (lstOf v h).map fun vs => (mkTup vs, h))
  | _, _ => none
theorem ok_tuple : CallR X (.type "tuple") (rc X.K cTuple) := by
  intro pins s σ H xs us Q I r ⟨mp, h, vs, v, h', R, rs, e, q⟩
  unfold cTuple at e
  split at e
  · cases rs with
    | cons ra rn =>
      cases rn
      split at e
      · rename_i ws et
        cases e
        obtain ⟨p, ys, ex, hs, ry⟩ := tup_rel ra et
        subst ex
        exact call_tuple_of pins s σ H _ us Q I r ⟨p, ys, rfl, .inr ⟨hs, q mp _ H R .refl ra⟩⟩
      · obtain ⟨ws, e1, e2⟩ := Option.map_eq_some_iff.mp e
        cases e2
        obtain ⟨p, ys, rfl, hs, ry⟩ := lst_rel R ra e1
        refine call_tuple_of pins s σ H _ us Q I r ⟨p, ys, rfl, .inl ⟨hs, fun l hl => ?_⟩⟩
        obtain ⟨R2, X2⟩ := R.new (.tup ys) hl
        exact q mp _ _ R2 X2 (mkTup_rel (.of upd_same) (ry.mono X2))
  · cases e
/-- a dict's keys -/
def kVal : Key → Val
  | .inl i => .d (.int i)
  | .inr x => .d (.str x)
theorem kVal_rel {K : PySem.W.Frag} {mp : List Addr} {H : Hp} : ∀ k : Key, RVal K mp H (kVal k) (kV k)
  | .inl i => .d (.int i)
  | .inr x => .d (.str x)
theorem RKv.keys {K : PySem.W.Frag} {mp : List Addr} {H : Hp} {κ : Type} : ∀ {kvs : List (κ × Val)} {ks : List (κ × V)}, RKv K mp H kvs ks → kvs.map (·.1) = ks.map (·.1)
  | [], _, .nil => rfl
  | _ :: _, _, .cons a b => by rw [List.map_cons, List.map_cons, a.1, RKv.keys b]
theorem keys_rel {K : PySem.W.Frag} {mp : List Addr} {H : Hp} : ∀ ks : List Key, RVals K mp H (ks.map kVal) (ks.map kV)
  | [] => .nil
  | k :: ks => .cons (kVal_rel k) (keys_rel ks)
def cList : List Val → Hh → Option (Val × Hh)
  | [.r n], h => (match h[n]? with
    | some (.lst vs) => some (.r h.length, h ++ [.lst vs])
    | some (.dic kvs) => some (.r h.length, h ++ [.lst ((kvs.map (·.1)).map kVal)])
    | _ => none)
  | [v], h => (seqOf v h).map fun vs => (.r h.length, h ++ [.lst vs])
  | _, _ => none
theorem ok_list (hc : X.calm = true) : CallR X (.type "list") (rc X.K cList) := by
  intro pins s σ H xs us Q I r ⟨mp, h, vs, v, h', R, rs, e, q⟩
  have seq : ∀ {v : Val} {x : V} {us : List Value} {vs : List Val}, RVal X.K mp H v x → Vals [x] us → seqOf v h = some vs → (∀ mp' z H', HRel X.K mp' H' (h ++ [.lst vs]) → Ext X.K mp H mp' H' → RVal X.K mp' H' (.r h.length) z → Q z H') → wpAny (model X.prog X.w) X.A (call (.type "list") us) (EP X pins σ Q) X.xe s := fun {v x us vs} ra r es q => by
    obtain ⟨p, ys, ex, hs, ry⟩ := seq_rel R ra es
    subst ex
    refine call_list_of pins s σ H _ us Q I r ⟨p, ys, rfl, hs, fun l hl => ?_⟩
    obtain ⟨R2, X2⟩ := R.alloc (o := .lst vs) (u := .lst ys) hl ⟨_, upd_same, ry.mono (ext_num hl)⟩
    exact q _ _ _ R2 X2 (.r (by rw [← R.len]; simp))
  unfold cList at e
  split at e
  · cases rs with
    | cons ra rn =>
      cases rn
      split at e
      · rename_i vs en
        cases e
        exact seq ra r (by unfold seqOf; simp [en]) q
      · rename_i kvs en
        cases e
        cases ra with
        | r m =>
          obtain ⟨ks, o1, rk⟩ := R.obj m en
          refine call_listD hc pins s σ H _ us Q I r ⟨_, ks, rfl, .inl o1, fun l hl => ?_⟩
          obtain ⟨R2, X2⟩ := R.alloc (o := .lst ((kvs.map (·.1)).map kVal)) (u := .lst (ks.map fun kv => kV kv.1)) hl ⟨_, upd_same, by
            rw [rk.keys]
            have z := keys_rel (K := X.K) (mp := mp) (H := H) (ks.map (·.1))
            rw [List.map_map (g := kV)] at z
            exact z.mono (ext_num hl)⟩
          exact q _ _ _ R2 X2 (.r (by rw [← R.len]; simp))
      · cases e
  · obtain ⟨vs, e1, e2⟩ := Option.map_eq_some_iff.mp e
    cases e2
    cases rs with
    | cons ra rn =>
      cases rn
      exact seq ra r e1 q
  · cases e
/-- sorted(..): a dict with text keys, a list of texts, of ints -/
def textKeys : List Key → Option (List Str)
  | [] => some []
  | .inr x :: ks => (textKeys ks).map (x :: ·)
  | _ => none
theorem textKeys_eq : ∀ {ks : List Key} {xs : List Str}, textKeys ks = some xs → ks = xs.map Sum.inr
  | [], _, e => by cases e; rfl
  | .inr x :: ks, _, e => by
    obtain ⟨ys, e1, rfl⟩ := Option.map_eq_some_iff.mp e
    rw [textKeys_eq e1]; rfl
  | .inl _ :: _, _, e => by cases e
def srtV (vs : List Val) : Option (List Val) := match strsA vs with
  | some xs => some ((srtS xs).map fun x => .d (.str x))
  | none => (intsA vs).map fun ns => (srtI ns).map fun i => .d (.int i)
def cSorted : List Val → Hh → Option (Val × Hh)
  | [.r n], h => (match h[n]? with
    | some (.dic kvs) => (textKeys (kvs.map (·.1))).bind fun xs => if xs.length < 64 then some (.r h.length, h ++ [.lst ((srtS xs).map fun x => .d (.str x))]) else none
    | some (.lst vs) => (srtV vs).bind fun ws => if vs.length < 64 then some (.r h.length, h ++ [.lst ws]) else none
    | _ => none)
  | _, _ => none
theorem strs_rel {K : PySem.W.Frag} {mp : List Addr} {H : Hp} : ∀ xs : List Str, RVals K mp H (xs.map fun x => .d (.str x)) (xs.map V.str)
  | [] => .nil
  | x :: xs => .cons (.d (.str x)) (strs_rel xs)
theorem ints_rel {K : PySem.W.Frag} {mp : List Addr} {H : Hp} : ∀ xs : List Int, RVals K mp H (xs.map fun x => .d (.int x)) (xs.map V.int)
  | [] => .nil
  | x :: xs => .cons (.d (.int x)) (ints_rel xs)
theorem ok_sorted (hc : X.calm = true) : CallR X (.builtin "sorted") (rc X.K cSorted) := by
  intro pins s σ H xs us Q I r ⟨mp, h, vs, v, h', R, rs, e, q⟩
  unfold cSorted at e
  split at e
  · cases rs with
    | cons ra rn =>
      cases rn
      cases ra with
      | r m =>
        split at e
        · rename_i kvs en
          obtain ⟨zs, e1, e2⟩ := Option.bind_eq_some_iff.mp e
          split at e2 <;> cases e2
          rename_i hl
          obtain ⟨ks, o1, rk⟩ := R.obj m en
          refine call_sortedD hc pins s σ H _ us Q I r ⟨_, ks, zs, rfl, .inl o1, by rw [← rk.keys]; exact textKeys_eq e1, hl, fun ys l hp hs hn => ?_⟩
          have := sorted_eq hp hs
          subst this
          obtain ⟨R2, X2⟩ := R.alloc (o := .lst ((srtS zs).map fun x => .d (.str x))) (u := .lst ((srtS zs).map V.str)) hn ⟨_, upd_same, (strs_rel _).mono (ext_num hn)⟩
          exact q _ _ _ R2 X2 (.r (by rw [← R.len]; simp))
        · rename_i vs en
          obtain ⟨zs, e1, e2⟩ := Option.bind_eq_some_iff.mp e
          split at e2 <;> cases e2
          rename_i hl
          obtain ⟨ks, o1, rk⟩ := R.obj m en
          unfold srtV at e1
          split at e1
          · rename_i ts et
            cases e1
            have ek := strsA_rel rk et
            subst ek
            refine cr_sortedS pins s σ H _ us Q I r ⟨_, ts, rfl, .of o1, by have := rk.length; rw [List.length_map] at this; omega, fun ys l hp hs hn => ?_⟩
            have := sorted_eq hp hs
            subst this
            obtain ⟨R2, X2⟩ := R.alloc (o := .lst ((srtS ts).map fun x => .d (.str x))) (u := .lst ((srtS ts).map V.str)) hn ⟨_, upd_same, (strs_rel _).mono (ext_num hn)⟩
            exact q _ _ _ R2 X2 (.r (by rw [← R.len]; simp))
          · obtain ⟨ts, et, rfl⟩ := Option.map_eq_some_iff.mp e1
            have ek := intsA_rel rk et
            subst ek
            refine cr_sorted pins s σ H _ us Q I r ⟨_, ts, rfl, .of o1, by have := rk.length; rw [List.length_map] at this; omega, fun ys l hp hs hn => ?_⟩
            have := sortedI_eq hp hs
            subst this
            obtain ⟨R2, X2⟩ := R.alloc (o := .lst ((srtI ts).map fun x => .d (.int x))) (u := .lst ((srtI ts).map V.int)) hn ⟨_, upd_same, (ints_rel _).mono (ext_num hn)⟩
            exact q _ _ _ R2 X2 (.r (by rw [← R.len]; simp))
        · cases e
  · cases e
/-- dict(..) of a list of pairs, of a dict -/
def pairV (v : Val) : Option (Key × Val) := match tupOf v with
  | some [a, b] => (keyV a).map fun k => (k, b)
  | _ => none
def pairsV : List Val → Option (List (Key × Val))
  | [] => some []
  | v :: vs => (pairV v).bind fun p => (pairsV vs).map (p :: ·)
def dmerge (kvs more : List (Key × Val)) : List (Key × Val) := more.foldl (fun acc kv => dput acc kv.1 kv.2) kvs
theorem RKv.merge {K : PySem.W.Frag} {mp : List Addr} {H : Hp} : ∀ {more : List (Key × Val)} {mr : List (Key × V)} {kvs : List (Key × Val)} {ks : List (Key × V)}, RKv K mp H more mr → RKv K mp H kvs ks → RKv K mp H (dmerge kvs more) (mergeK ks mr)
  | [], _, _, _, .nil, q => q
  | (k, v) :: more, (k', x) :: mr, kvs, ks, .cons a b, q => by
    obtain ⟨e, r⟩ := a
    have e : k = k' := e
    subst e
    exact RKv.merge (more := more) (mr := mr) b (q.put k r)
theorem pairs_rel {K : PySem.W.Frag} {mp : List Addr} {H : Hp} : ∀ {vs : List Val} {xs : List V} {kvs : List (Key × Val)}, RVals K mp H vs xs → pairsV vs = some kvs → ∃ ps ks, xs = ps.map V.ref ∧ Paired (fun p kv => SqT K H p [kV kv.1, kv.2]) ps ks ∧ RKv K mp H kvs ks
  | [], _, _, .nil, e => by cases e; exact ⟨[], [], rfl, .nil, .nil⟩
  | v :: vs, _, _, .cons a b, e => by
    obtain ⟨p, e1, e2⟩ := Option.bind_eq_some_iff.mp e
    obtain ⟨r, e3, rfl⟩ := Option.map_eq_some_iff.mp e2
    obtain ⟨ps, ks, rfl, h1, h2⟩ := pairs_rel b e3
    unfold pairV at e1
    split at e1
    · rename_i x y et
      obtain ⟨k, ek, rfl⟩ := Option.map_eq_some_iff.mp e1
      obtain ⟨c, ys, rfl, hs, ry⟩ := tup_rel a et
      cases ry with
      | cons rx rr =>
        cases rr with
        | cons ry rn =>
          cases rn
          rw [keyV_rel ek rx] at hs
          exact ⟨c :: ps, (k, _) :: ks, rfl, .cons hs h1, .cons ⟨rfl, ry⟩ h2⟩
    · cases e1
def cDict : List Val → Hh → Option (Val × Hh)
  | [.r n], h => (match h[n]? with
    | some (.lst vs) => (pairsV vs).map fun kvs => (.r h.length, h ++ [.dic (dmerge [] kvs)])
    | some (.dic kvs) => some (.r h.length, h ++ [.dic kvs])
    | _ => none)
  | _, _ => none
theorem ok_dict (hc : X.calm = true) : CallR X (.type "dict") (rc X.K cDict) := by
  intro pins s σ H xs us Q I r ⟨mp, h, vs, v, h', R, rs, e, q⟩
  unfold cDict at e
  split at e
  · cases rs with
    | cons ra rn =>
      cases rn
      cases ra with
      | r m =>
        split at e
        · rename_i vs en
          obtain ⟨kvs, e1, e2⟩ := Option.map_eq_some_iff.mp e
          cases e2
          obtain ⟨ys, o1, ry⟩ := R.obj m en
          obtain ⟨ps, ks, rfl, h1, h2⟩ := pairs_rel ry e1
          refine call_dictP hc pins s σ H _ us Q I r ⟨_, ps, ks, rfl, .of o1, h1, fun l hn => ?_⟩
          obtain ⟨R2, X2⟩ := R.alloc (o := .dic (dmerge [] kvs)) (u := .dK (mergeK [] ks)) hn ⟨_, upd_same, (RKv.merge h2 .nil).mono (ext_num hn)⟩
          exact q _ _ _ R2 X2 (.r (by rw [← R.len]; simp))
        · rename_i kvs en
          cases e
          obtain ⟨ks, o1, rk⟩ := R.obj m en
          refine call_dictD pins s σ H _ us Q I r ⟨_, ks, rfl, .inl o1, fun l hn => ?_⟩
          obtain ⟨R2, X2⟩ := R.alloc (o := .dic kvs) (u := .dK ks) hn ⟨_, upd_same, rk.mono (ext_num hn)⟩
          exact q _ _ _ R2 X2 (.r (by rw [← R.len]; simp))
        · cases e
  · cases e
end
end Dq
namespace Dq
open PySem PySem.Spec PyProof.Rows L2
/-- a call's beginning and end -/
def startE (n : Nat) (vs : List Val) : Env := vs.map some ++ List.replicate (n - vs.length) none
def fnR (m : Env → Hh → RS) (n : Nat) (vs : List Val) (h : Hh) : R Val := match m (startE n vs) h with
  | .rt v h' => .ok v h'
  | .nx _ h' => .ok (.d .non) h'
  | .exc c _ h' => .exc c h'
  | _ => .bad
noncomputable def Pl (G : Gm) (bd : G.F → Sv G) (n : G.F → Nat) : Nat → Tab G
  | 0 => fun _ _ _ => .bad
  | k + 1 => fun f vs h => gc h (fnR (bd f (Pl G bd n k)) (n f) vs h)
theorem erel_start {K : PySem.W.Frag} {mp : List Addr} {H : Hp} {N : List Str} {vs : List Val} {xs : List V} (r : RVals K mp H vs xs) : ERel K mp H (startE N.length vs) (L2.start N xs) := by
  unfold startE L2.start
  have hl := r.length
  refine ⟨by simp [hl], fun i v e => ?_⟩
  by_cases hi : i < vs.length
  · rw [List.getElem?_append_left (by simpa using hi), List.getElem?_map] at e
    obtain ⟨w, e1, e2⟩ := Option.map_eq_some_iff.mp e
    have e2 := Option.some.inj e2
    subst e2
    obtain ⟨x, ex, rx⟩ := r.get e1
    exact ⟨x, by rw [List.getElem?_append_left (by simpa [← hl] using hi), List.getElem?_map, ex]; rfl, rx⟩
  · rw [List.getElem?_append_right (by simpa using hi), List.getElem?_replicate] at e
    split at e <;> cases e
section
variable {G : Gm} {bd : G.F → Sv G} {n : G.F → Nat} {P : Program} {w : World} {K : PySem.W.Frag} {mg : Str → Option Value} {base : Heap}
abbrev fnS (N : List Str) (sc : Scope) : Sx := { N := N, sc := sc, fb := fun _ => true, full := true }
theorem fn_ok {k : Nat} {f : G.F} {x qual : Str} {params : Arguments} {body : List Stmt} {scope : Scope} {fd : FuncData} {N : List Str} (gok : GOk G w K mg) (tab : TOk G P w K mg base (2 * k) (Pl G bd n k)) (F : FunD K x qual params body scope [] [] (He.fAd K (G.at_ f)) fd) (S : FnScope N (G.ps f) scope) (hn : n f = N.length)
    (hb : DSs G (fnS N scope) body (bd f)) : FnOk P w K mg base (L2.CX P w) (2 * (k + 1)) (He.fAd K (G.at_ f)) fd (G.ps f) (spD G K (Pl G bd n (k + 1)) f) := by
  show FnOk P w K mg base (L2.CX P w) (2 * k + 1 + 1) _ _ _ _
  refine F.ok S (fun vs H Q E ⟨mp, h, args, R, rs, hl, q⟩ => by rw [← rs.length, hl]) (fun cdv A outer s H vs Q E hr ⟨mp, h, args, R, rs, hl, q⟩ => ?_)
  have q : Res K (rV K) (fun c d _ H => E c d H) [] mp H (gc h (fnR (bd f (Pl G bd n k)) (n f) args h)) Q := q
  have q := Res.gc R q
  rw [hn] at q
  unfold fnR at q
  refine ⟨LftS K (fun c d _ H => E c d H) (bd f (Pl G bd n k)), ?_, mp, startE N.length args, h, R, erel_start rs, ?_⟩
  · have C : Ctx G (fnS N scope) (2 * k) (Pl G bd n k) (cxOf (L2.CX P w) P w K mg base N qual scope (He.fAd K (G.at_ f)) cdv A outer s H E) (fun c d _ H => E c d H) :=
      ⟨rfl, S.nd, rfl, S.kind, rfl, hr, gok, tab, takes_of rfl rfl rfl rfl, fun _ _ => rfl, passes_of rfl, fun _ => ⟨rfl, rfl, rfl⟩⟩
    exact hb (2 * k) _ _ _ C
  · cases e : bd f (Pl G bd n k) (startE N.length args) h with
    | nx ρ' h' => rw [e] at q; exact fun mp' σ' H' R' X' _ => q mp' .non H' R' X' (.d .non)
    | rt v h' => rw [e] at q; exact fun mp' y H' R' X' r => q mp' y H' R' X' r
    | bk ρ' h' => rw [e] at q; exact q.elim
    | ct ρ' h' => rw [e] at q; exact q.elim
    | exc c ρ' h' => rw [e] at q; exact fun d mp' σ' H' R' X' _ => q d mp' H' R' X'
    | bad => rw [e] at q; exact q
/-- a def, as the generator prints it -/
structure DefOk (G : Gm) (bd : G.F → Sv G) (n : G.F → Nat) (f : G.F) (d : He.DefD) (N : List Str) : Prop where
  at_ : d.at_ = G.at_ f
  dv : d.dfl = []
  kw : d.kwd = []
  sc : FnScope N (G.ps f) d.scope
  n : n f = N.length
  b : ∀ (kV doc pm : Value) (an : Option Addr) (cdv ct : Value) (us : List Value), us.length = (G.ps f).length → bindArgs (PySem.W.fnOf d.name d.qual d.params d.body d.scope .none kV doc pm an cdv ct) ⟨us, []⟩ = pure ((G.ps f).zip us)
  ok : DSs G (fnS N d.scope) d.body (bd f)

/-! ### what the head tells -/
mutual
def constB (K : PySem.W.Frag) : Value → D → Bool
  | .none, .non => true
  | .bool b, .bl c => b == c
  | .int i _, .int j => decide (i = j)
  | .str x _, .str y => decide (x = y)
  | .ref a, .tup ds => (match K.lookup a with
    | some ⟨.type c, _, .seq its _, _⟩ => decide (c = "tuple") && (decide (its.size ≤ sizeLine) && constsB K its.toList ds)
    | _ => false)
  | _, _ => false
def constsB (K : PySem.W.Frag) : List Value → List D → Bool
  | [], [] => true
  | u :: us, d :: ds => constB K u d && constsB K us ds
  | _, _ => false
end
mutual
theorem constB_ok {K : PySem.W.Frag} : ∀ (d : D) {u : Value}, constB K u d = true → ∃ v, RelV v u ∧ ∀ H, RD K H d v
  | .non, u, h => by
    cases u <;> simp only [constB, Bool.false_eq_true] at h
    exact ⟨.non, rfl, fun _ => .non⟩
  | .bl b, u, h => by
    cases u <;> simp only [constB, Bool.false_eq_true, beq_iff_eq] at h
    subst h
    exact ⟨.bl _, rfl, fun _ => .bl _⟩
  | .int i, u, h => by
    cases u <;> simp only [constB, Bool.false_eq_true, decide_eq_true_eq] at h
    subst h
    exact ⟨.int _, ⟨_, rfl⟩, fun _ => .int _⟩
  | .str i, u, h => by
    cases u <;> simp only [constB, Bool.false_eq_true, decide_eq_true_eq] at h
    subst h
    exact ⟨.str _, ⟨_, rfl⟩, fun _ => .str _⟩
  | .tup ds, u, h => by
    cases u <;> simp only [constB, Bool.false_eq_true] at h
    rename_i a
    split at h
    · rename_i c dd its nn sl e
      simp only [Bool.and_eq_true, decide_eq_true_eq] at h
      obtain ⟨rfl, hz, h⟩ := h
      obtain ⟨vs, r, rd⟩ := constsB_ok ds h
      exact ⟨.ref a, rfl, fun H => .tup (.inr ⟨_, its, nn, e, rfl, rfl, hz, r⟩) (rd H)⟩
    · cases h
theorem constsB_ok {K : PySem.W.Frag} : ∀ (ds : List D) {us : List Value}, constsB K us ds = true → ∃ vs, Vals vs us ∧ ∀ H, RDs K H ds vs
  | [], us, h => by
    cases us with
    | nil => exact ⟨[], .nil, fun _ => .nil⟩
    | cons u us => simp only [constsB, Bool.false_eq_true] at h
  | d :: ds, us, h => by
    cases us with
    | nil => simp only [constsB, Bool.false_eq_true] at h
    | cons u us =>
      simp only [constsB, Bool.and_eq_true] at h
      obtain ⟨v, r1, d1⟩ := constB_ok d h.1
      obtain ⟨vs, r2, d2⟩ := constsB_ok ds h.2
      exact ⟨v :: vs, .cons r1 r2, fun H => .cons (d1 H) (d2 H)⟩
end
def nsB (K : PySem.W.Frag) (a : Addr) (x : Str) (d : D) : Bool := match PySem.W.nsIn K a x with
  | some (some u) => constB K u d
  | _ => false
theorem nsB_ok {K : PySem.W.Frag} {a : Addr} {x : Str} {d : D} (h : nsB K a x d = true) : ∃ v u, PySem.W.nsIn K a x = some (some u) ∧ RelV v u ∧ ∀ H, RD K H d v := by
  unfold nsB at h
  split at h
  · rename_i u e
    obtain ⟨v, r, q⟩ := constB_ok _ h
    exact ⟨v, u, e, r, q⟩
  · cases h
/-- the head's one more Bool: constants, tables -/
def exC (cns : List (Str × D)) (tbs : List (Str × List (Str × D))) (K : PySem.W.Frag) : Bool :=
  (cns.all fun p => nsB K mainGlobals p.1 p.2) && tbs.all fun p => He.eqO (PySem.W.nsIn K mainGlobals p.1) (some (some (.ref (He.ga K p.1)))) && p.2.all fun q => nsB K (He.ga K p.1) q.1 q.2
def tabsH (tbs : List (Str × List (Str × D))) : List He.Tab := tbs.map fun p => (fun K => He.ga K p.1, p.2.map (·.1))
def hasGlo (fa : List He.Fa) (x : Str) : Bool := fa.any fun f => match f with | .glo y => decide (y = x) | _ => false
def hasFree (fa : List He.Fa) (x : Str) : Bool := fa.any fun f => match f with | .free y => decide (y = x) | _ => false
def hasExc (fa : List He.Fa) (x : Str) : Bool := fa.any fun f => match f with | .exc y => decide (y = x) | _ => false
def hasExm (fa : List He.Fa) (x y : Str) (b : Bool) : Bool := fa.any fun f => match f with | .exm u v c => decide (u = x) && (decide (v = y) && c == b) | _ => false
theorem hasGlo_ok {fa : List He.Fa} {x : Str} (h : hasGlo fa x = true) : .glo x ∈ fa := by
  obtain ⟨f, hf, e⟩ := List.any_eq_true.mp h
  split at e
  · have := of_decide_eq_true e; subst this; exact hf
  · cases e
theorem hasFree_ok {fa : List He.Fa} {x : Str} (h : hasFree fa x = true) : .free x ∈ fa := by
  obtain ⟨f, hf, e⟩ := List.any_eq_true.mp h
  split at e
  · have := of_decide_eq_true e; subst this; exact hf
  · cases e
theorem hasExc_ok {fa : List He.Fa} {x : Str} (h : hasExc fa x = true) : .exc x ∈ fa := by
  obtain ⟨f, hf, e⟩ := List.any_eq_true.mp h
  split at e
  · have := of_decide_eq_true e; subst this; exact hf
  · cases e
theorem hasExm_ok {fa : List He.Fa} {x y : Str} {b : Bool} (h : hasExm fa x y b = true) : .exm x y b ∈ fa := by
  obtain ⟨f, hf, e⟩ := List.any_eq_true.mp h
  split at e
  · simp only [Bool.and_eq_true, decide_eq_true_eq, beq_iff_eq] at e
    obtain ⟨rfl, rfl, rfl⟩ := e
    exact hf
  · cases e
def hasCls (fa : List He.Fa) (x : Str) : Bool := fa.any fun f => match f with | .cls y => decide (y = x) | _ => false
def hasMkr (fa : List He.Fa) (x : Str) : Bool := fa.any fun f => match f with | .mkr y => decide (y = x) | _ => false
def hasNoat (fa : List He.Fa) (x m : Str) : Bool := fa.any fun f => match f with | .noat u v => decide (u = x) && decide (v = m) | _ => false
def hasMeth (fa : List He.Fa) (x m : Str) : Bool := fa.any fun f => match f with | .meth u v => decide (u = x) && decide (v = m) | _ => false
theorem hasCls_ok {fa : List He.Fa} {x : Str} (h : hasCls fa x = true) : .cls x ∈ fa := by
  obtain ⟨f, hf, e⟩ := List.any_eq_true.mp h
  split at e
  · have := of_decide_eq_true e; subst this; exact hf
  · cases e
theorem hasMkr_ok {fa : List He.Fa} {x : Str} (h : hasMkr fa x = true) : .mkr x ∈ fa := by
  obtain ⟨f, hf, e⟩ := List.any_eq_true.mp h
  split at e
  · have := of_decide_eq_true e; subst this; exact hf
  · cases e
theorem hasNoat_ok {fa : List He.Fa} {x m : Str} (h : hasNoat fa x m = true) : .noat x m ∈ fa := by
  obtain ⟨f, hf, e⟩ := List.any_eq_true.mp h
  split at e
  · simp only [Bool.and_eq_true, decide_eq_true_eq] at e
    obtain ⟨rfl, rfl⟩ := e
    exact hf
  · cases e
theorem hasMeth_ok {fa : List He.Fa} {x m : Str} (h : hasMeth fa x m = true) : .meth x m ∈ fa := by
  obtain ⟨f, hf, e⟩ := List.any_eq_true.mp h
  split at e
  · simp only [Bool.and_eq_true, decide_eq_true_eq] at e
    obtain ⟨rfl, rfl⟩ := e
    exact hf
  · cases e
/-- what of the description the head's facts tell -/
def gokB (G : Gm) (fa : List He.Fa) : Bool :=
  (G.fns.all fun p => hasGlo fa p.1 && decide (G.at_ p.2 = (p.1, none))) && ((G.blt.all fun x => hasFree fa x) && ((G.exs.all fun x => hasGlo fa x && hasExc fa x) && ((G.exm.all fun p => hasExm fa p.1 p.2.1 p.2.2) &&
    ((G.mth.all fun p => hasCls fa p.1 && (hasMeth fa p.1 p.2.1 && decide (G.at_ p.2.2 = (p.1, some p.2.1)))) && ((G.ini.all fun p => hasGlo fa p.1 && (hasMkr fa p.1 && decide (G.at_ p.2 = (p.1, some ("__init__" : Str))))) &&
      G.nat.all fun p => hasCls fa p.1 && hasNoat fa p.1 p.2)))))
theorem gok_of {G : Gm} {w : World} {K : PySem.W.Frag} {mg : Str → Option Value} {h : Heap} {fa : List He.Fa} {fn : List He.DefD} (Xk : K.In h) (Gn : h.Ns mainGlobals mg) (c : He.SaysX fa fn (tabsH G.tbs) [] (exC G.cns G.tbs) w h K) (hb : gokB G fa = true)
    (hd : ∀ f, ∃ d ∈ fn, d.at_ = G.at_ f) : GOk G w K mg := by
  unfold gokB at hb
  simp only [Bool.and_eq_true, List.all_eq_true] at hb
  obtain ⟨h1, h2, h3, h4, h5, h6, h7⟩ := hb
  have ex := c.more
  unfold exC at ex
  simp only [Bool.and_eq_true, List.all_eq_true] at ex
  obtain ⟨e1, e2⟩ := ex
  refine ⟨fun p hp => ?_, fun p hp => ?_, fun x hx => He.free_ok Xk Gn (c.t.d.facts (hasFree_ok (h2 x hx))), fun p hp => ?_, fun p hp => ?_, fun x hx => ?_, fun p hp => He.exm_ok (c.t.d.facts (hasExm_ok (h4 p hp))), fun p hp => ?_, fun p hp => ?_⟩
  · obtain ⟨g1, g2⟩ := h1 p hp
    have g2 := of_decide_eq_true g2
    obtain ⟨d, hd1, hd2⟩ := hd p.2
    obtain ⟨fd, F⟩ := c.t.d.defs hd1
    refine ⟨?_, by rw [← hd2]; exact F.kp⟩
    rw [g2]
    exact He.glo_ok Xk Gn (c.t.d.facts (hasGlo_ok g1))
  · obtain ⟨v, u, q1, q2, q3⟩ := nsB_ok (e1 p hp)
    exact ⟨v, u, PySem.W.mg_of Xk Gn q1, q2, q3⟩
  · obtain ⟨g1, g2, g3⟩ := h5 p hp
    refine ⟨He.cls_ok (c.t.d.facts (hasCls_ok g1)), ?_⟩
    rw [of_decide_eq_true g3]
    exact He.meth_ok (c.t.d.facts (hasMeth_ok g2))
  · obtain ⟨g1, g2, g3⟩ := h6 p hp
    refine ⟨He.glo_ok Xk Gn (c.t.d.facts (hasGlo_ok g1)), ?_⟩
    rw [of_decide_eq_true g3]
    exact He.mkr_ok (c.t.d.facts (hasMkr_ok g2))
  · obtain ⟨g1, g2⟩ := h3 x hx
    exact ⟨He.glo_ok Xk Gn (c.t.d.facts (hasGlo_ok g1)), c.t.d.facts (hasExc_ok g2)⟩
  · obtain ⟨g1, g2⟩ := h7 p hp
    exact ⟨He.cls_ok (c.t.d.facts (hasCls_ok g1)), He.noat_ok (c.t.d.facts (hasNoat_ok g2))⟩
  · obtain ⟨g1, g2⟩ := e2 p hp
    obtain ⟨i, hi, ep⟩ := List.mem_iff_getElem.mp hp
    obtain ⟨es, nn, kd⟩ := c.t.tab i (t := (fun K => He.ga K p.1, p.2.map (·.1))) (by unfold tabsH; rw [List.getElem?_map, List.getElem?_eq_getElem hi, ep]; rfl)
    exact ⟨_, es, nn, PySem.W.mg_of Xk Gn (He.eqO_ok g1), kd, fun q hq => nsB_ok (g2 q hq)⟩
end
section
variable {G : Gm} {bd : G.F → Sv G} {n : G.F → Nat} {P : Program} {w : World} {K : PySem.W.Frag} {mg : Str → Option Value} {h : Heap} {fa : List He.Fa} {fn : List He.DefD} {ts : List He.Tab}
theorem tab_ok (gok : GOk G w K mg) (c : He.SaysD fa fn K) (hd : ∀ f, ∃ d ∈ fn, ∃ N, DefOk G bd n f d N) (base : Heap) : ∀ k, TOk G P w K mg base (2 * k) (Pl G bd n k)
  | 0 => fun f => by
    obtain ⟨d, hm, N, D⟩ := hd f
    obtain ⟨fd, F⟩ := c.defs hm
    have F : FunD K d.name d.qual d.params d.body d.scope [] [] (He.fAd K (G.at_ f)) fd := by
      have z := F
      rw [← D.at_]
      unfold He.DefD.dvs He.DefD.kws at z
      rw [D.dv, D.kw] at z
      exact z
    exact ⟨fd, ⟨fun vs H Q E ⟨mp, h, args, R, rs, hl, q⟩ => by rw [← rs.length, hl], fun A outer s H a us vs Q E _ _ _ _ ⟨mp, h, args, R, rs, hl, q⟩ => q.elim⟩, F.bindsN D.b⟩
  | k + 1 => fun f => by
    obtain ⟨d, hm, N, D⟩ := hd f
    obtain ⟨fd, F⟩ := c.defs hm
    have F : FunD K d.name d.qual d.params d.body d.scope [] [] (He.fAd K (G.at_ f)) fd := by
      have z := F
      rw [← D.at_]
      unfold He.DefD.dvs He.DefD.kws at z
      rw [D.dv, D.kw] at z
      exact z
    exact ⟨fd, fn_ok gok (tab_ok gok c hd base k) F D.sc D.n D.ok, F.bindsN D.b⟩
end
end Dq
namespace Dq
open PySem PySem.Spec PyProof.Rows L2
section
variable {G : Gm} {S : Sx} {pos : Pos}
abbrev HOp (G : Gm) (S : Sx) (f : Value → Value → Sem Value) (v : Val → Val → Hh → Option (Val × Hh)) : Prop := ∀ k (T : Tab G) X W, Ctx G S k T X W → OpR X f (rOf X.K v)
theorem h_add : HOp G S (binaryOp .Add) vAdd := fun _ _ _ _ _ => ok_add
theorem h_sub : HOp G S (binaryOp .Sub) vSub := fun _ _ _ _ _ => ok_sub
theorem h_mul : HOp G S (binaryOp .Mult) vMul := fun _ _ _ _ _ => ok_mul
theorem h_div : HOp G S (binaryOp .FloorDiv) vDiv := fun _ _ _ _ _ => ok_div
theorem h_mod : HOp G S (binaryOp .Mod) vMod := fun _ _ _ _ _ => ok_mod
theorem h_pow : HOp G S (binaryOp .Pow) vPow := fun _ _ _ _ _ => ok_pow
theorem h_shl : HOp G S (binaryOp .LShift) vShl := fun _ _ _ _ _ => ok_shl
theorem h_lt : HOp G S (compareOp .Lt) vLt := fun _ _ _ _ _ => ok_lt
theorem h_le : HOp G S (compareOp .LtE) vLe := fun _ _ _ _ _ => ok_le
theorem h_gt : HOp G S (compareOp .Gt) vGt := fun _ _ _ _ _ => ok_gt
theorem h_ge : HOp G S (compareOp .GtE) vGe := fun _ _ _ _ _ => ok_ge
theorem h_eq : HOp G S (compareOp .Eq) vEq := fun _ _ _ _ C => ok_eq (by have := C.un; omega)
theorem h_ne : HOp G S (compareOp .NotEq) vNe := fun _ _ _ _ C => ok_ne (by have := C.un; omega)
theorem h_is : HOp G S (compareOp .Is) vIsN := fun _ _ _ _ _ => ok_isN
theorem h_isnot : HOp G S (compareOp .IsNot) vNotN := fun _ _ _ _ _ => ok_notN
theorem h_in : HOp G S (compareOp .In) vIn := fun _ _ _ _ C => ok_in C.un
theorem h_notin : HOp G S (compareOp .NotIn) vNotIn := fun _ _ _ _ C => ok_notIn C.un
theorem d_neg {a : Expr} {ma : Ev G} (ha : DE G S a ma) : DE G S (.UnaryOp .USub a pos) (o1 vNeg ma) := d_un (fun _ _ _ _ _ => ok_neg) ha
abbrev HCb (G : Gm) (S : Sx) (f : Value) (c : List Val → Hh → Option (Val × Hh)) : Prop := ∀ k (T : Tab G) X W, Ctx G S k T X W → CallR X f (rc X.K c)
theorem h_len : HCb G S (.builtin "len") cLen := fun _ _ _ _ _ => ok_len
theorem h_abs : HCb G S (.builtin "abs") cAbs := fun _ _ _ _ _ => ok_abs
theorem h_sum : HCb G S (.builtin "sum") cSum := fun _ _ _ _ C => ok_sum C.calm
theorem h_all : HCb G S (.builtin "all") cAll := fun _ _ _ _ C => ok_all C.calm
theorem h_any : HCb G S (.builtin "any") cAny := fun _ _ _ _ C => ok_any C.calm
theorem h_max : HCb G S (.builtin "max") cMax := fun _ _ _ _ C => ok_max C.calm
theorem h_min : HCb G S (.builtin "min") cMin := fun _ _ _ _ C => ok_min C.calm
theorem h_sorted : HCb G S (.builtin "sorted") cSorted := fun _ _ _ _ C => ok_sorted C.calm
theorem h_int : HCb G S (.type "int") cInt := fun _ _ _ _ _ => ok_int
theorem h_str : HCb G S (.type "str") cStr := fun _ _ _ _ _ => ok_str
theorem h_tuple : HCb G S (.type "tuple") cTuple := fun _ _ _ _ _ => ok_tuple
theorem h_list : HCb G S (.type "list") cList := fun _ _ _ _ C => ok_list C.calm
theorem h_dict : HCb G S (.type "dict") cDict := fun _ _ _ _ C => ok_dict C.calm
/-! ### tests let go of what they made -/
open Classical in
noncomputable def gcB (h : Hh) : R Bool → R Bool
  | .ok b h' => if h'.take h.length = h then .ok b h else .ok b h'
  | r => r
noncomputable def qGc (m : Tv G) : Tv G := fun T ρ h => gcB h (m T ρ h)
theorem dt_gc {e : Expr} {m : Tv G} (he : DT G S e m) : DT G S e (qGc m) := fun k T X W C =>
  (he k T X W C).wk fun σ H Q ⟨mp, ρ, h, R, E, q⟩ => ⟨mp, ρ, h, R, E, by
    have q : Res X.K rB W σ mp H (gcB h (m T ρ h)) Q := q
    cases e : m T ρ h with
    | exc c h' => rw [e] at q; exact q
    | bad => rw [e] at q; exact q
    | ok b h' =>
      rw [e] at q
      intro mp' y H' R' X' r
      unfold gcB at q
      by_cases ht : h'.take h.length = h
      · simp only [if_pos ht] at q
        obtain ⟨Rb, Eb⟩ := R.back X' R' ht
        exact q mp y H' Rb Eb r
      · simp only [if_neg ht] at q
        exact q mp' y H' R' X' r⟩
end
/-! ### letting go, computed -/
open Classical in
theorem gc_ok {h h' : Hh} {v : Val} (ht : h'.take h.length = h) : gc h (.ok v h') = if v.bel h.length = true then .ok v h else match v with
        | .r n => (match h'[n]? with
          | some o => if o.bel h.length = true then .ok (.r h.length) (h ++ [o]) else .ok v h'
          | none => .ok v h')
        | v => .ok v h' := by
  unfold gc
  simp only [if_pos ht]
  all_goals (
    by_cases hb : v.bel h.length = true
    · rw [if_pos hb, if_pos hb]
    · rw [if_neg hb, if_neg hb]
      cases v with
      | r n =>
        cases hn : h'[n]? with
        | none => simp only [hn]
        | some o =>
          simp only [hn]
      | d x => rfl
      | t x => rfl
      | fz x => rfl)
theorem gc_d {x : D} {h t : Hh} : gc h (.ok (.d x) (h ++ t)) = .ok (.d x) h := by
  rw [gc_ok (by simp), if_pos (show Val.bel h.length (.d x) = true from rfl)]
theorem gc_d0 {x : D} {h : Hh} : gc h (.ok (.d x) h) = .ok (.d x) h := by
  rw [gc_ok (by simp), if_pos (show Val.bel h.length (.d x) = true from rfl)]
theorem gc_r {h t u : Hh} {o : O} (ho : o.bel h.length = true) : gc h (.ok (.r (h.length + t.length)) (h ++ (t ++ (o :: u)))) = .ok (.r h.length) (h ++ [o]) := by
  have e : ((h ++ (t ++ (o :: u)))[h.length + t.length]?) = some o := by
    rw [List.getElem?_append_right (by omega)]
    simp
  rw [gc_ok (by simp), if_neg (by simp [Val.bel])]
  simp only [e, if_pos ho]
theorem gc_r0 {h u : Hh} {o : O} (ho : o.bel h.length = true) : gc h (.ok (.r h.length) (h ++ (o :: u))) = .ok (.r h.length) (h ++ [o]) := gc_r (t := []) ho
theorem gc_exc {h h' : Hh} {c : Str} : gc h (.exc c h') = .exc c h' := rfl
theorem gc_bad {h : Hh} : gc h .bad = .bad := rfl
theorem gcB_ok {b : Bool} {h t : Hh} : gcB h (.ok b (h ++ t)) = .ok b h := by
  have e : (h ++ t).take h.length = h := by simp
  simp only [gcB, if_pos e]
theorem gcB_ok0 {b : Bool} {h : Hh} : gcB h (.ok b h) = .ok b h := by
  have e : h.take h.length = h := by simp
  simp only [gcB, if_pos e]
theorem belAll_d (n : Nat) : ∀ ds : List D, belAll n (ds.map .d) = true
  | [] => rfl
  | d :: ds => by rw [List.map_cons, belAll, belAll_d n ds]; rfl
end Dq
namespace Dq
open PySem PySem.Spec PyProof.Rows L2
abbrev kGet1 : Val → List Val → Hh → Option (Val × Hh) := fun a bs h => match bs with | [b] => vGet1 a b h | _ => none
abbrev kGet2 : Val → List Val → Hh → Option (Val × Hh) := fun a bs h => match bs with | [b, c] => vGet2 a b c h | _ => none
/-- not e, as a value -/
def eNotV {G : Gm} (m : Ev G) : Ev G := fun T => bnd (m T) fun v _ h => match truB v h with
  | some b => .ok (.d (.bl (!b))) h
  | none => .bad
theorem d_notV {G : Gm} {S : Sx} {pos : Pos} {e : Expr} {m : Ev G} (he : DE G S e m) : DE G S (.UnaryOp .Not e pos) (eNotV m) := fun k T X W C => by
  refine (pe_notT (he k T X W C)).wk fun σ H Q ⟨mp, ρ, h, R, E, q⟩ => ?_
  refine res_bnd R E q fun v y mp1 h1 H1 X1 R1 E1 r1 q1 => ?_
  split at q1
  · rename_i b e1
    exact ⟨b, tru_rel R1 r1 e1, q1 mp1 _ H1 R1 .refl (.d (.bl _))⟩
  · exact q1.elim
end Dq
namespace Dq
open PySem PySem.Spec PyProof.Rows L2
/-- a promise without an exception, over CX0 -/
theorem fn_calm {P : Program} {w : World} {K : PySem.W.Frag} {mg : Str → Option Value} {base : Heap} {k : Nat} {f : Addr} {fd : FuncData} {ps : List Str} {sp sp' : Sp} (F : FnOk P w K mg base (L2.CX P w) k f fd ps sp)
    (h : ∀ vs H Q E, sp' vs H Q E → sp vs H Q fun _ _ _ => False) : FnOk P w K mg base CX0 k f fd ps sp' :=
  ⟨fun vs H Q E q => F.len _ _ _ _ (h _ _ _ _ q), fun A outer s H args us vs Q E hr he hb hv hs => codeAny_mono (F.run A outer s H args us vs Q _ hr he hb hv (h _ _ _ _ hs)) fun r s' hq => by
    cases r with
    | ok fl => cases fl <;> exact hq
    | error e =>
      obtain ⟨a, B, H', cls, d, _, _, _, _, _, _, _, q⟩ := hq
      exact q.elim⟩
/-- the law's def: what the walk's end asks -/
theorem law_fn {G : Gm} {bd : G.F → Sv G} {n : G.F → Nat} {P : Program} {w : World} {mg : Str → Option Value} {h : Heap} {fa : List He.Fa} {fn : List He.DefD} (hk : PySem.W.Frag → Prop) {f : G.F} {x : Str} {k : Nat} {adr : Addr} {m : Nat}
    (Y : ∃ K : PySem.W.Frag, K.In h ∧ He.SaysX fa fn (tabsH G.tbs) [] (exC G.cns G.tbs) w h K) (Gn : h.Ns mainGlobals mg) (hb : gokB G fa = true)
    (hd : ∀ f, ∃ d ∈ fn, ∃ N, DefOk G bd n f d N)
    (hp : G.ps f = [x]) {y : Str} (ha : G.at_ f = (y, none)) (hy : hasGlo fa y = true) (hmg : mg y = some (.ref adr))
    (law : ∀ ns : List Int, ns.length ≤ m → ∃ h', Pl G bd n (k + 1) f [.fz (ns.map .int)] [] = .ok (.d (.bl true)) h') :
    ∃ (K : PySem.W.Frag) (fd : FuncData) (sp : Sp), K.In h ∧ (∀ (s : Shared) (u : Value), BindsTo s fd ⟨[u], []⟩ [(x, u)]) ∧
        (∀ (H : Hp) (a : Addr) (ns : List Int), ns.length ≤ m → Only H → SqL K H a (ns.map V.int) → sp [.ref a] H (fun v _ => v = .bl true) fun _ _ _ => False) ∧
        ∀ base : Heap, K.In base → base.Ns mainGlobals mg → FnOk P w K mg base CX0 (2 * (k + 1)) adr fd [x] sp := by
  obtain ⟨K, KX, c⟩ := Y
  have gok : GOk G w K mg := gok_of KX Gn c hb (fun f => let ⟨d, hd1, N, D⟩ := hd f; ⟨d, hd1, D.at_⟩)
  obtain ⟨d, hd1, N, D⟩ := hd f
  obtain ⟨fd, F⟩ := c.t.d.defs hd1
  have F : FunD K d.name d.qual d.params d.body d.scope [] [] (He.fAd K (G.at_ f)) fd := by
    have z := F
    rw [← D.at_]
    unfold He.DefD.dvs He.DefD.kws at z
    rw [D.dv, D.kw] at z
    exact z
  have ea : adr = He.fAd K (G.at_ f) := by
    have z := He.glo_ok KX Gn (c.t.d.facts (hasGlo_ok hy))
    rw [hmg] at z
    rw [ha]
    injection z with z
    injection z
  have B : ∀ (s : Shared) (us : List Value), us.length = (G.ps f).length → BindsTo s fd ⟨us, []⟩ ((G.ps f).zip us) := FunD.bindsA F D.b
  refine ⟨K, fd, fun vs H Q E => spD G K (Pl G bd n (k + 1)) f vs H Q fun _ _ _ => False, KX, fun s u => ?_, fun H a ns hl hO hS => ?_, fun base hbase _ => ?_⟩
  · have z := B s [u] (by rw [hp]; rfl)
    rw [hp] at z
    exact z
  · obtain ⟨h', e⟩ := law ns hl
    refine ⟨[], [], [.fz (ns.map .int)], ⟨rfl, List.nodup_nil, fun n o hn => by simp at hn⟩, .cons (.fz (xs := ns.map V.int) ?_ ?_) .nil, by rw [hp]; rfl, ?_⟩
    · rcases hS with hS | hS
      · exact .inl ⟨hS, List.not_mem_nil⟩
      · exact .inr hS
    · clear e hl hS law
      induction ns with
      | nil => exact .nil
      | cons i ns ih => exact .cons (.int i) ih
    · rw [e]
      intro mp' y H' R X r
      cases r with | d r => cases r; rfl
  · have F' := fn_ok (P := P) (base := base) gok (tab_ok (P := P) gok c.t.d hd base k) F D.sc D.n D.ok
    subst ea
    rw [hp] at F'
    exact fn_calm F' fun vs H Q E q => q
end Dq
namespace Dq
open PySem PySem.Spec PyProof.Rows L2
/-! ### how the readings compute -/
section
variable {G : Gm} {T : Tab G} {ρ : Env} {h : Hh}
theorem Pl_s {bd : G.F → Sv G} {n : G.F → Nat} {k : Nat} {f : G.F} {vs : List Val} : Pl G bd n (k + 1) f vs h = gc h (fnR (bd f (Pl G bd n k)) (n f) vs h) := rfl
@[simp] theorem x_bnd {α β : Type} {m : Env → Hh → R α} {k : α → Env → Hh → R β} : bnd m k ρ h = (match m ρ h with | .ok v h' => k v ρ h' | .exc c h' => .exc c h' | .bad => .bad) := rfl
@[simp] theorem x_sEr {α : Type} {m : Env → Hh → R α} {k : α → Env → Hh → RS} : sEr m k ρ h = (match m ρ h with | .ok v h' => k v ρ h' | .exc c h' => .exc c ρ h' | .bad => .bad) := rfl
@[simp] theorem x_kPut {x y v : Val} : kPut x y v ρ h = (match vPut x y v h with | some h' => .nx ρ h' | none => .bad) := rfl
@[simp] theorem x_eVar {i : Nat} : eVar (G := G) i T ρ h = (fun _ ρ h => match ρ[i]? with
  | some (some v) => .ok v h
  | _ => .bad) T ρ h := rfl
@[simp] theorem x_eC {x : D} : eC (G := G) x T ρ h = (fun _ _ h => .ok (.d x) h) T ρ h := rfl
@[simp] theorem x_aNil  : aNil (G := G)  T ρ h = (fun _ _ h => .ok [] h) T ρ h := rfl
@[simp] theorem x_aCons {m : Ev G} {n : Av G} : aCons (G := G) m n T ρ h = (fun T => bnd (m T) fun v => bnd (n T) fun vs _ h => .ok (v :: vs) h) T ρ h := rfl
@[simp] theorem x_eTup {m : Av G} : eTup (G := G) m T ρ h = (fun T => bnd (m T) fun vs _ h => if vs.length ≤ sizeLine then .ok (mkTup vs) h else .bad) T ρ h := rfl
@[simp] theorem x_eLst {m : Av G} : eLst (G := G) m T ρ h = (fun T => bnd (m T) fun vs _ h => if vs.length ≤ sizeLine then .ok (.r h.length) (h ++ [.lst vs]) else .bad) T ρ h := rfl
@[simp] theorem x_o2 {f : Val → Val → Hh → Option (Val × Hh)} {ma mb : Ev G} : o2 (G := G) f ma mb T ρ h = (fun T => bnd (ma T) fun x => bnd (mb T) fun y _ h => match f x y h with
  | some (v, h') => .ok v h'
  | none => .bad) T ρ h := rfl
@[simp] theorem x_o1 {f : Val → Hh → Option (Val × Hh)} {ma : Ev G} : o1 (G := G) f ma T ρ h = (fun T => bnd (ma T) fun x _ h => match f x h with
  | some (v, h') => .ok v h'
  | none => .bad) T ρ h := rfl
@[simp] theorem x_qVal {m : Ev G} : qVal (G := G) m T ρ h = (fun T => bnd (m T) fun v _ h => match v with
  | .d (.bl b) => .ok b h
  | _ => .bad) T ρ h := rfl
@[simp] theorem x_qTru {m : Ev G} : qTru (G := G) m T ρ h = (fun T => bnd (m T) fun v _ h => match truB v h with
  | some b => .ok b h
  | none => .bad) T ρ h := rfl
@[simp] theorem x_qNot {m : Tv G} : qNot (G := G) m T ρ h = (fun T => bnd (m T) fun b _ h => .ok (!b) h) T ρ h := rfl
@[simp] theorem x_qAnd {m n : Tv G} : qAnd (G := G) m n T ρ h = (fun T => bnd (m T) fun b ρ h => if b = true then n T ρ h else .ok false h) T ρ h := rfl
@[simp] theorem x_qOr {m n : Tv G} : qOr (G := G) m n T ρ h = (fun T => bnd (m T) fun b ρ h => if b = true then .ok true h else n T ρ h) T ρ h := rfl
@[simp] theorem x_qYes  : qYes (G := G)  T ρ h = (fun _ _ h => .ok true h) T ρ h := rfl
@[simp] theorem x_qGc {m : Tv G} : qGc (G := G) m T ρ h = (fun T ρ h => gcB h (m T ρ h)) T ρ h := rfl
@[simp] theorem x_eGc {m : Ev G} : eGc (G := G) m T ρ h = (fun T ρ h => gc h (m T ρ h)) T ρ h := rfl
@[simp] theorem x_eAnd {m n : Ev G} : eAnd (G := G) m n T ρ h = (fun T => bnd (m T) fun v ρ h => match v with
  | .d (.bl true) => n T ρ h
  | .d (.bl false) => .ok (.d (.bl false)) h
  | _ => .bad) T ρ h := rfl
@[simp] theorem x_eOr {m n : Ev G} : eOr (G := G) m n T ρ h = (fun T => bnd (m T) fun v ρ h => match v with
  | .d (.bl true) => .ok (.d (.bl true)) h
  | .d (.bl false) => n T ρ h
  | _ => .bad) T ρ h := rfl
@[simp] theorem x_eNotV {m : Ev G} : eNotV (G := G) m T ρ h = (fun T => bnd (m T) fun v _ h => match truB v h with
  | some b => .ok (.d (.bl (!b))) h
  | none => .bad) T ρ h := rfl
@[simp] theorem x_eIf {t : Tv G} {m n : Ev G} : eIf (G := G) t m n T ρ h = (fun T => bnd (t T) fun b ρ h => if b = true then m T ρ h else n T ρ h) T ρ h := rfl
@[simp] theorem x_eChain {f g : Val → Val → Hh → Option (Val × Hh)} {ma mb mc : Ev G} : eChain (G := G) f g ma mb mc T ρ h = (fun T => bnd (ma T) fun x => bnd (mb T) fun y ρ h => match f x y h with
  | some (.d (.bl true), h') => bnd (mc T) (fun z _ h2 => match g y z h2 with
    | some (v, h3) => .ok v h3
    | none => .bad) ρ h'
  | some (.d (.bl false), h') => .ok (.d (.bl false)) h'
  | _ => .bad) T ρ h := rfl
@[simp] theorem x_pNo  : pNo (G := G)  T ρ h = (fun _ _ h => .ok none h) T ρ h := rfl
@[simp] theorem x_pSo {m : Ev G} : pSo (G := G) m T ρ h = (fun T => bnd (m T) fun v _ h => match v with
  | .d (.int i) => .ok (some i) h
  | _ => .bad) T ρ h := rfl
@[simp] theorem x_eSl {m : Ev G} {lo hi : Pv G} : eSl (G := G) m lo hi T ρ h = (fun T => bnd (m T) fun v => bnd (lo T) fun l => bnd (hi T) fun u _ h => match vSl v l u h with
  | some (v, h') => .ok v h'
  | none => .bad) T ρ h := rfl
@[simp] theorem x_eFn {f : G.F} {m : Av G} : eFn (G := G) f m T ρ h = (fun T => bnd (m T) fun vs _ h => if vs.length = (G.ps f).length then T f vs h else .bad) T ρ h := rfl
@[simp] theorem x_eB {c : List Val → Hh → Option (Val × Hh)} {m : Av G} : eB (G := G) c m T ρ h = (fun T => bnd (m T) fun vs _ h => match c vs h with
  | some (v, h') => .ok v h'
  | none => .bad) T ρ h := rfl
@[simp] theorem x_oM {c : Val → Hh → Bool} {f : Val → List Val → Hh → Option (Val × Hh)} {ma : Ev G} {mb : Av G} : oM (G := G) c f ma mb T ρ h = (fun T => bnd (ma T) fun x ρ h => if c x h = true then bnd (mb T) (fun y _ h => match f x y h with
  | some (v, h') => .ok v h'
  | none => .bad) ρ h else .bad) T ρ h := rfl
@[simp] theorem x_eTGet {tb : List (Str × D)} {m : Ev G} : eTGet (G := G) tb m T ρ h = (fun T => bnd (m T) fun v _ h => match v with
  | .d (.str z) => (match tb.lookup z with
    | some d => .ok (.d d) h
    | none => .bad)
  | _ => .bad) T ρ h := rfl
@[simp] theorem x_iSeq {m : Ev G} : iSeq (G := G) m T ρ h = (fun T => bnd (m T) fun v _ h => match itOf v h with
  | some it => .ok it h
  | none => .bad) T ρ h := rfl
@[simp] theorem x_iRange {f : List Val → Option (Int × Int × Nat)} {m : Av G} : iRange (G := G) f m T ρ h = (fun T => bnd (m T) fun vs _ h => match f vs with
  | some (lo, c, n) => .ok ⟨rngV lo c n, fun _ => True⟩ h
  | none => .bad) T ρ h := rfl
@[simp] theorem x_iZipD {m : Av G} : iZipD (G := G) m T ρ h = (fun T => bnd (m T) fun vs _ h => match vs with
  | [v, w] => (match zipB v w h with
    | some it => .ok it h
    | none => .bad)
  | _ => .bad) T ρ h := rfl
@[simp] theorem x_eLc {it : Iv G} {g : Tg} {t : Tv G} {e : Ev G} {vs : List Nat} : eLc (G := G) it g t e vs T ρ h = (fun T => bnd (it T) fun i ρ h => match lcGo h.length i.chk g (wipeE ρ vs) (t T) (e T) i.vs (h ++ [.lst []]) with
  | some h' => .ok (.r h.length) h'
  | none => .bad) T ρ h := rfl
@[simp] theorem x_eDc {it : Iv G} {g : Tg} {t : Tv G} {a e : Ev G} {vs : List Nat} : eDc (G := G) it g t a e vs T ρ h = (fun T => bnd (it T) fun i ρ h => match dcGo h.length i.chk g (wipeE ρ vs) (t T) (a T) (e T) i.vs (h ++ [.dic []]) with
  | some h' => .ok (.r h.length) h'
  | none => .bad) T ρ h := rfl
@[simp] theorem x_sNext  : sNext (G := G)  T ρ h = (fun _ ρ h => .nx ρ h) T ρ h := rfl
@[simp] theorem x_sBrk  : sBrk (G := G)  T ρ h = (fun _ ρ h => .bk ρ h) T ρ h := rfl
@[simp] theorem x_sCont  : sCont (G := G)  T ρ h = (fun _ ρ h => .ct ρ h) T ρ h := rfl
@[simp] theorem x_sSeq {m n : Sv G} : sSeq (G := G) m n T ρ h = (fun T ρ h => match m T ρ h with
  | .nx ρ' h' => n T ρ' h'
  | r => r) T ρ h := rfl
@[simp] theorem x_sT {m : Tv G} {p q : Sv G} : sT (G := G) m p q T ρ h = (fun T ρ h => match m T ρ h with
  | .ok true h' => p T ρ h'
  | .ok false h' => q T ρ h'
  | .exc c h' => .exc c ρ h'
  | .bad => .bad) T ρ h := rfl
@[simp] theorem x_sDrop {m : Ev G} : sDrop (G := G) m T ρ h = (fun T => sEr (m T) fun _ ρ h => .nx ρ h) T ρ h := rfl
@[simp] theorem x_sRet {m : Ev G} : sRet (G := G) m T ρ h = (fun T => sEr (m T) fun v _ h => .rt v h) T ρ h := rfl
@[simp] theorem x_sSet {m : Ev G} {g : Tg} : sSet (G := G) m g T ρ h = (fun T => sEr (m T) fun v ρ h => match g v ρ with
  | some ρ' => .nx ρ' h
  | none => .bad) T ρ h := rfl
@[simp] theorem x_sPar {m : Av G} {is : List Nat} : sPar (G := G) m is T ρ h = (fun T => sEr (m T) fun vs ρ h => if vs.length = is.length then .nx ((is.zip vs).foldl (fun ρ p => ρ.set p.1 (some p.2)) ρ) h else .bad) T ρ h := rfl
@[simp] theorem x_sPut {m a b : Ev G} : sPut (G := G) m a b T ρ h = (fun T => sEr (m T) fun v => sEr (a T) fun x => sEr (b T) fun y => kPut x y v) T ρ h := rfl
@[simp] theorem x_sRaise {c : Str} : sRaise (G := G) c T ρ h = (fun _ ρ h => .exc c ρ h) T ρ h := rfl
@[simp] theorem x_sTryR {m : Sv G} {c : Str} {d : D} : sTryR (G := G) m c d T ρ h = (fun T ρ h => match m T ρ h with
  | .exc e ρ' h' => (match exLook G.exm e c with
    | some true => .rt (.d d) h'
    | some false => .exc e ρ' h'
    | none => .bad)
  | r => r) T ρ h := rfl
@[simp] theorem x_sFor {it : Iv G} {g : Tg} {body : Sv G} : sFor (G := G) it g body T ρ h = (fun T ρ h => match it T ρ h with
  | .ok i h' => forGo i.chk g (body T) i.vs ρ h'
  | .exc c h' => .exc c ρ h'
  | .bad => .bad) T ρ h := rfl
@[simp] theorem x_gVar {i : Nat} {v : Val} : gVar i v ρ = some (ρ.set i (some v)) := rfl
@[simp] theorem x_gNil {vs : List Val} : gNilG vs ρ = (match vs with | [] => some ρ | _ => none) := rfl
@[simp] theorem x_gCons {g : Tg} {gs : Tgs} {vs : List Val} : gConsG g gs vs ρ = (match vs with | v :: vs => (g v ρ).bind fun ρ' => gs vs ρ' | [] => none) := rfl
@[simp] theorem x_gTup {n : Nat} {gs : Tgs} {v : Val} : gTupG n gs v ρ = (tupOf v).bind fun vs => if vs.length = n then gs vs ρ else none := rfl
end
@[simp] theorem x_tupOf {ds : List D} : tupOf (.d (.tup ds)) = some (ds.map .d) := rfl
@[simp] theorem x_lcNil {n : Nat} {chk : Hh → Prop} {g : Tg} {ρ : Env} {t : Env → Hh → R Bool} {e : Env → Hh → R Val} {h : Hh} (hc : chk h) : lcGo n chk g ρ t e [] h = some h := by
  unfold lcGo
  rw [if_pos hc]
theorem x_lcCons {n : Nat} {chk : Hh → Prop} {g : Tg} {ρ : Env} {t : Env → Hh → R Bool} {e : Env → Hh → R Val} {h : Hh} {v : Val} {vs : List Val} (hc : chk h) : lcGo n chk g ρ t e (v :: vs) h = (match g v ρ with
    | some ρ' => (match t ρ' h with
      | .ok true h1 => (match e ρ' h1 with
        | .ok y h2 => (match h2[n]? with
          | some (.lst acc) => if acc.length < sizeLine then lcGo n chk g ρ t e vs (h2.set n (.lst (acc ++ [y]))) else none
          | _ => none)
        | _ => none)
      | .ok false h1 => lcGo n chk g ρ t e vs h1
      | _ => none)
    | none => none) := by
  rw [lcGo, if_pos hc] <;> rfl
/-- a comprehension whose turns leave the heap alone: what it makes -/
theorem lc_run {g : Tg} {ρ : Env} {t : Env → Hh → R Bool} {e : Env → Hh → R Val} {chk : Hh → Prop} (f : Val → Option Val) (h : Hh) : ∀ (vs acc : List Val), (∀ a, chk (h ++ [.lst a])) → acc.length + vs.length ≤ sizeLine →
    (∀ v ∈ vs, ∀ a, ∃ ρ', g v ρ = some ρ' ∧ ((f v = none ∧ t ρ' (h ++ [.lst a]) = .ok false (h ++ [.lst a])) ∨ ∃ y, f v = some y ∧ t ρ' (h ++ [.lst a]) = .ok true (h ++ [.lst a]) ∧ e ρ' (h ++ [.lst a]) = .ok y (h ++ [.lst a]))) →
    lcGo h.length chk g ρ t e vs (h ++ [.lst acc]) = some (h ++ [.lst (acc ++ vs.filterMap f)])
  | [], acc, hc, hl, _ => by rw [x_lcNil (hc acc)]; simp
  | v :: vs, acc, hc, hl, hv => by
    rw [x_lcCons (hc acc)]
    obtain ⟨ρ', e1, e2⟩ := hv v (List.mem_cons_self ..) acc
    simp only [e1]
    rw [List.length_cons] at hl
    rcases e2 with ⟨e2, e3⟩ | ⟨y, e2, e3, e4⟩
    · simp only [e3]
      rw [lc_run f h vs acc hc (by omega) fun w hw => hv w (List.mem_cons_of_mem _ hw), List.filterMap_cons, e2]
    · simp only [e3, e4]
      have z : (h ++ [O.lst acc])[h.length]? = some (.lst acc) := by simp
      simp only [z]
      rw [if_pos (by omega)]
      have z2 : (h ++ [O.lst acc]).set h.length (.lst (acc ++ [y])) = h ++ [.lst (acc ++ [y])] := by
        rw [List.set_append_right _ _ (Nat.le_refl _)]
        simp
      rw [z2, lc_run f h vs (acc ++ [y]) hc (by rw [List.length_append, List.length_singleton]; omega) fun w hw => hv w (List.mem_cons_of_mem _ hw), List.filterMap_cons, e2]
      simp
/-- every item gives one -/
theorem lc_map {g : Tg} {ρ : Env} {t : Env → Hh → R Bool} {e : Env → Hh → R Val} {chk : Hh → Prop} (f : Val → Val) (h : Hh) (vs : List Val) (hc : ∀ a, chk (h ++ [.lst a])) (hl : vs.length ≤ sizeLine)
    (hv : ∀ v ∈ vs, ∀ a, ∃ ρ', g v ρ = some ρ' ∧ t ρ' (h ++ [.lst a]) = .ok true (h ++ [.lst a]) ∧ e ρ' (h ++ [.lst a]) = .ok (f v) (h ++ [.lst a])) :
    lcGo h.length chk g ρ t e vs (h ++ [.lst []]) = some (h ++ [.lst (vs.map f)]) := by
  have z := lc_run (chk := chk) (g := g) (ρ := ρ) (t := t) (e := e) (fun v => some (f v)) h vs [] hc (by simpa using hl) fun v hv' a => by
    obtain ⟨ρ', e1, e2, e3⟩ := hv v hv' a
    exact ⟨ρ', e1, .inr ⟨f v, rfl, e2, e3⟩⟩
  rw [z, List.filterMap_eq_map']
  rfl
/-- a loop whose body steps a state -/
theorem for_run {α : Type} {chk : Hh → Prop} {g : Tg} {body : Env → Hh → RS} (E : α → Env) (HH : α → Hh) (step : α → Val → α) : ∀ (vs : List Val) (a : α), (∀ a, chk (HH a)) →
    (∀ v ∈ vs, ∀ a, ∃ ρ', g v (E a) = some ρ' ∧ body ρ' (HH a) = .nx (E (step a v)) (HH (step a v))) → forGo chk g body vs (E a) (HH a) = .nx (E (vs.foldl step a)) (HH (vs.foldl step a))
  | [], a, hc, _ => by rw [forGo, if_pos (hc a)]; rfl
  | v :: vs, a, hc, hv => by
    obtain ⟨ρ', e1, e2⟩ := hv v (List.mem_cons_self ..) a
    rw [forGo, if_pos (hc a)]
    simp only [e1, e2]
    exact for_run E HH step vs (step a v) hc fun w hw => hv w (List.mem_cons_of_mem _ hw)
end Dq
namespace Dq
open PySem PySem.Spec PyProof.Rows L2
theorem sWhile_step {G : Gm} {c : Tv G} {b : Sv G} {T : Tab G} {ρ : Env} {h : Hh} : sWhile c b T ρ h = (match c T ρ h with
    | .ok true h1 => (match b T ρ h1 with
      | .nx ρ2 h2 => sWhile c b T ρ2 h2
      | .ct ρ2 h2 => sWhile c b T ρ2 h2
      | .bk ρ2 h2 => .nx ρ2 h2
      | r => r)
    | .ok false h1 => .nx ρ h1
    | .exc x h1 => .exc x ρ h1
    | .bad => .bad) := by
  have go : ∀ {ρ h ρ2 h2} , (∀ n, whGo (c T) (b T) (n + 1) ρ h = whGo (c T) (b T) n ρ2 h2) → sWhile c b T ρ h = sWhile c b T ρ2 h2 := fun {ρ h ρ2 h2} e => by
    by_cases x : ∃ n, whGo (c T) (b T) n ρ2 h2 ≠ .bad
    · obtain ⟨n, x⟩ := x
      rw [sWhile_eq n rfl x, sWhile_eq (n + 1) (e n) x]
    · have y : ¬ ∃ n, whGo (c T) (b T) n ρ h ≠ .bad := fun ⟨n, y⟩ => by
        cases n with
        | zero => exact y rfl
        | succ n => exact x ⟨n, by rw [← e n]; exact y⟩
      unfold sWhile
      rw [dif_neg x, dif_neg y]
  have one : ∀ {r : RS}, (∀ n, whGo (c T) (b T) (n + 1) ρ h = r) → sWhile c b T ρ h = r := fun {r} e => by
    by_cases hr : r = .bad
    · subst hr
      have y : ¬ ∃ n, whGo (c T) (b T) n ρ h ≠ .bad := fun ⟨n, y⟩ => by
        cases n with
        | zero => exact y rfl
        | succ n => exact y (e n)
      unfold sWhile
      rw [dif_neg y]
    · exact sWhile_eq 1 (e 0) hr
  cases e : c T ρ h with
  | exc x h1 => exact one fun n => by simp only [whGo, e]
  | bad => exact one fun n => by simp only [whGo, e]
  | ok t h1 =>
    cases t with
    | false => exact one fun n => by simp only [whGo, e]
    | true =>
      simp only
      cases e2 : b T ρ h1 with
      | nx ρ2 h2 => exact go fun n => by simp only [whGo, e, e2]
      | ct ρ2 h2 => exact go fun n => by simp only [whGo, e, e2]
      | bk ρ2 h2 => exact one fun n => by simp only [whGo, e, e2]
      | rt v2 h2 => exact one fun n => by simp only [whGo, e, e2]
      | exc c2 ρ2 h2 => exact one fun n => by simp only [whGo, e, e2]
      | bad => exact one fun n => by simp only [whGo, e, e2]
@[simp] theorem x_forNil {chk : Hh → Prop} {g : Tg} {b : Env → Hh → RS} {ρ : Env} {h : Hh} (hc : chk h) : forGo chk g b [] ρ h = .nx ρ h := by
  rw [forGo, if_pos hc]
theorem x_forCons {chk : Hh → Prop} {g : Tg} {b : Env → Hh → RS} {ρ : Env} {h : Hh} {v : Val} {vs : List Val} (hc : chk h) : forGo chk g b (v :: vs) ρ h = (match g v ρ with
    | some ρ' => (match b ρ' h with
      | .nx ρ2 h2 => forGo chk g b vs ρ2 h2
      | .ct ρ2 h2 => forGo chk g b vs ρ2 h2
      | .bk ρ2 h2 => .nx ρ2 h2
      | r => r)
    | none => .bad) := by
  rw [forGo, if_pos hc] <;> rfl
@[simp] theorem x_dcNil {n : Nat} {chk : Hh → Prop} {g : Tg} {ρ : Env} {t : Env → Hh → R Bool} {a e : Env → Hh → R Val} {h : Hh} (hc : chk h) : dcGo n chk g ρ t a e [] h = some h := by
  unfold dcGo
  rw [if_pos hc]
theorem x_dcCons {n : Nat} {chk : Hh → Prop} {g : Tg} {ρ : Env} {t : Env → Hh → R Bool} {a e : Env → Hh → R Val} {h : Hh} {v : Val} {vs : List Val} (hc : chk h) : dcGo n chk g ρ t a e (v :: vs) h = (match g v ρ with
    | some ρ' => (match t ρ' h with
      | .ok true h1 => (match a ρ' h1 with
        | .ok x h2 => (match e ρ' h2 with
          | .ok y h3 => (match h3[n]?, keyV x with
            | some (.dic acc), some k => if acc.length < sizeLine then dcGo n chk g ρ t a e vs (h3.set n (.dic (dput acc k y))) else none
            | _, _ => none)
          | _ => none)
        | _ => none)
      | .ok false h1 => dcGo n chk g ρ t a e vs h1
      | _ => none)
    | none => none) := by
  rw [dcGo, if_pos hc] <;> rfl
end Dq
namespace Dq
open PySem PySem.Spec PyProof.Rows L2
section
variable {G : Gm} {S : Sx} {pos : Pos}
/-! ### name op= e, ints -/
def vIAdd : Val → Val → Hh → Option (Val × Hh)
  | .d (.int i), .d (.int j), h => some (.d (.int (i + j)), h)
  | _, _, _ => none
theorem ok_iadd {X : Cx} : PIp X .Add (rOf X.K vIAdd) := by
  intro pins s σ H x y v u Q I rx ry ⟨mp, h, a, b, z, h', R, ra, rb, e, q⟩
  unfold vIAdd at e
  split at e
  · cases ra with | d ra => cases ra; cases rb with | d rb => cases rb; cases e; exact ip_add pins s σ H _ _ v u Q I rx ry ⟨_, _, rfl, rfl, q mp _ H R .refl (.d (.int _))⟩
  · cases e
theorem ok_isub {X : Cx} : PIp X .Sub (rOf X.K vSub) := by
  intro pins s σ H x y v u Q I rx ry ⟨mp, h, a, b, z, h', R, ra, rb, e, q⟩
  unfold vSub at e
  split at e
  · cases ra with | d ra => cases ra; cases rb with | d rb => cases rb; cases e; exact ip_sub pins s σ H _ _ v u Q I rx ry ⟨_, _, rfl, rfl, q mp _ H R .refl (.d (.int _))⟩
  · cases e
def kAug (i : Nat) (f : Val → Val → Hh → Option (Val × Hh)) (x : Val) : Val → Dq.Env → Hh → RS := fun y ρ h => match f x y h with
  | some (z, h') => .nx (ρ.set i (some z)) h'
  | none => .bad
def sAug (i : Nat) (f : Val → Val → Hh → Option (Val × Hh)) (m : Ev G) : Sv G := fun T ρ h => match ρ[i]? with
  | some (some x) => sEr (m T) (kAug i f x) ρ h
  | _ => .bad
theorem ds_aug (i : Nat) {x : Str} {e : Expr} {m : Ev G} {op : Operator} {f : Val → Val → Hh → Option (Val × Hh)} {p : Pos} (ho : ∀ k (T : Tab G) X W, Ctx G S k T X W → PIp X op (rOf X.K f)) (he : DE G S e m) (hN : S.N[i]? = some x := by rfl) (hl : LocS S x := by first | exact Or.inl rfl | exact Or.inr ⟨rfl, rfl⟩) :
    DS G S (.AugAssign (.Name x p) op e pos) (sAug i f m) := fun k T X W C => by
  have hl := C.loc hl
  have nd : X.N.Nodup := by rw [C.N]; exact C.nd
  refine (ps_aug (i := i) nd (by rw [C.N]; exact hN) hl.1 (he k T X W C) (ho k T X W C) hl.2).wk fun D σ H ⟨mp, ρ, h, R, E, q⟩ => ?_
  unfold sAug at q
  split at q
  · rename_i v ev
    obtain ⟨y, ey, ry⟩ := E.2 i v ev
    refine ⟨y, ey, se_bnd R E q fun w z mp1 h1 H1 X1 R1 E1 r1 q1 => ?_⟩
    unfold kAug at q1
    split at q1
    · rename_i u h' eu
      exact ⟨mp1, h1, v, w, u, h', R1, ry.mono X1, r1, eu, fun mp2 t H2 R2 X2 r2 => q1 mp2 _ H2 R2 X2 ((E1.mono X2).set r2 i)⟩
    · exact q1.elim
  · exact q.elim
/-! ### enumerate of a list -/
def enumV (i : Nat) : List Val → List Val
  | [] => []
  | v :: vs => mkTup [.d (.int i), v] :: enumV (i + 1) vs
theorem enumV_get {v : Val} : ∀ {vs : List Val} {i k : Nat}, (enumV i vs)[k]? = some v → ∃ w, vs[k]? = some w ∧ v = mkTup [.d (.int ((i + k : Nat) : Int)), w]
  | [], i, k, e => by simp [enumV] at e
  | w :: vs, i, 0, e => by
    have e' := Option.some.inj e
    exact ⟨w, rfl, e'.symm⟩
  | w :: vs, i, k + 1, e => by
    obtain ⟨u, e1, e2⟩ := enumV_get (vs := vs) (i := i + 1) (k := k) e
    exact ⟨u, e1, by rw [e2, show i + 1 + k = i + (k + 1) by omega]⟩
theorem enumV_len : ∀ (vs : List Val) (i : Nat), (enumV i vs).length = vs.length
  | [], _ => rfl
  | v :: vs, i => by rw [enumV, List.length_cons, List.length_cons, enumV_len vs]
def enumB (v : Val) (h : Hh) : Option Itr' := match v with
  | .r n => (match h[n]? with
    | some (.lst vs) => some ⟨enumV 0 vs, fun h' => h'[n]? = some (.lst vs)⟩
    | _ => none)
  | .fz ds => some ⟨enumV 0 (ds.map .d), fun _ => True⟩
  | _ => none
def iEnumD (m : Av G) : Iv G := fun T => bnd (m T) fun vs _ h => match vs with
  | [v] => (match enumB v h with
    | some it => .ok it h
    | none => .bad)
  | _ => .bad
theorem di_enum {e : Expr} {elts : List Expr} {kk : Nat} {tpos p : Pos} {m : Av G} (ha : DA G S [e] m) (hg : GlS S "enumerate" := by rfl) (hm : ("enumerate" : Str) ∈ G.blt := by decide +kernel) (hs : ∀ env, starEach [e] env = [(false, eval e env)] := by intro _; rfl) :
    DI G S (.Tuple elts kk tpos) (.Call (.Name "enumerate" p) [e] [] pos) (iEnumD m) := fun k T X W C => by
  refine (pi_enum (C.gl hg) (C.g.bl _ hm) (ha k T X W C) (hs _)).wk fun σ H Q ⟨mp, ρ, h, R, E, q⟩ => ?_
  refine res_bnd R E q fun v y mp1 h1 H1 X1 R1 E1 r1 q1 => ?_
  split at q1
  · rename_i v
    split at q1
    · rename_i it e
      cases r1 with
      | cons ra rn =>
        cases rn
        unfold enumB at e
        split at e
        · rename_i n
          split at e
          · rename_i vs en
            cases e
            cases ra with
            | r ma =>
              obtain ⟨xs, o1, rx⟩ := R1.obj ma en
              refine ⟨_, xs, rfl, .of o1, q1 mp1 _ H1 R1 .refl ?_⟩
              intro i mp2 h2 H2 E2 R2 hc
              obtain ⟨ys, o2, ry⟩ := R2.obj (pre_get E2.pre ma) hc
              have s2 : SqL X.K H2 _ ys := .of o2
              refine ⟨fun u eu => ?_, fun hl => ⟨ys, s2, by rw [enumV_len, ry.length] at hl; exact hl⟩⟩
              obtain ⟨w, ew, rfl⟩ := enumV_get eu
              obtain ⟨z, ez, rz⟩ := ry.get ew
              refine ⟨⟨ys, z, s2, ez⟩, ?_⟩
              rintro _ _ ⟨Tp, z', rfl, np, rfl, hz⟩
              have e3 := hz ys s2
              rw [ez] at e3; cases e3
              obtain ⟨R3, X3⟩ := R2.new (.tup [.int ((i : Nat) : Int), z]) np
              refine ⟨R3, X3, ?_⟩
              rw [Nat.zero_add]
              exact mkTup_rel (.of upd_same) (.cons (.d (.int _)) (.cons (rz.mono X3) .nil))
          · cases e
        · rename_i ds
          cases e
          cases ra with
          | fz s1 rd =>
            refine ⟨_, _, rfl, s1.sq, q1 mp1 _ H1 R1 .refl ?_⟩
            intro i mp2 h2 H2 E2 R2 _
            have s2 := (s1.mono E2).sq
            have ry := (rd.vals (mp := mp1)).mono E2
            refine ⟨fun u eu => ?_, fun hl => ⟨_, s2, by rw [enumV_len, ry.length] at hl; exact hl⟩⟩
            obtain ⟨w, ew, rfl⟩ := enumV_get eu
            obtain ⟨z, ez, rz⟩ := ry.get ew
            refine ⟨⟨_, z, s2, ez⟩, ?_⟩
            rintro _ _ ⟨Tp, z', rfl, np, rfl, hz⟩
            have e3 := hz _ s2
            rw [ez] at e3; cases e3
            obtain ⟨R3, X3⟩ := R2.new (.tup [.int ((i : Nat) : Int), z]) np
            refine ⟨R3, X3, ?_⟩
            rw [Nat.zero_add]
            exact mkTup_rel (.of upd_same) (.cons (.d (.int _)) (.cons (rz.mono X3) .nil))
        · cases e
    · exact q1.elim
  · exact q1.elim
end
end Dq
namespace Dq
open PySem PySem.Spec PyProof.Rows L2
section
variable {G : Gm} {S : Sx} {pos : Pos}
/-! ### an own instance's fields -/
theorem rkv_lookup {K : PySem.W.Frag} {mp : List Addr} {H : Hp} {f : Str} {v : Val} : ∀ {fs : List (Str × Val)} {gs : List (Str × V)}, RKv K mp H fs gs → fs.lookup f = some v → ∃ y, gs.lookup f = some y ∧ RVal K mp H v y
  | [], _, _, e => by cases e
  | (c, w) :: fs, [], r, e => by cases r
  | (c, w) :: fs, (d, z) :: gs, r, e => by
    cases r with
    | cons p r =>
      obtain ⟨rfl, pv⟩ := p
      cases hc : (f == c) with
      | true => simp only [List.lookup, hc] at e ⊢; cases e; exact ⟨_, rfl, pv⟩
      | false => simp only [List.lookup, hc] at e ⊢; exact rkv_lookup r e
def vFld (nat : List (Str × Str)) (f : Str) : Val → Hh → Option (Val × Hh)
  | .r n, h => match h[n]? with
    | some (.ins C fs) => if (C, f) ∈ nat then (match fs.lookup f with
      | some v => some (v, h)
      | none => none) else none
    | _ => none
  | _, _ => none
theorem d_fld {e : Expr} {f : Str} {m : Ev G} (he : DE G S e m) (hb : ∀ env, attributeBase e f env (eval e env) = eval e env := by intro _; rfl) :
    DE G S (.Attribute e f pos) (o1 (vFld G.nat f) m) := fun k T X W C => by
  refine (pe_fld (he k T X W C) (hb _)).wk fun σ H Q ⟨mp, ρ, h, R, E, q⟩ => ?_
  refine res_bnd R E q fun v y mp1 h1 H1 X1 R1 E1 r1 q1 => ?_
  unfold vFld at q1
  split at q1
  · rename_i z h' ez
    split at ez
    · rename_i n
      split at ez
      · rename_i c fs en
        split at ez
        · rename_i hn
          split at ez
          · rename_i w el
            cases ez
            cases r1 with
            | r ma =>
              obtain ⟨a, ea, dx, gs, o1, rx⟩ := R1.at_ _ _ en
              rw [ma] at ea; cases ea
              obtain ⟨cl, na⟩ := C.g.nat _ hn
              obtain ⟨y2, e2, r2⟩ := rkv_lookup rx el
              exact ⟨_, _, dx, gs, y2, rfl, o1, cl, na, e2, q1 mp1 _ H1 R1 .refl r2⟩
          · cases ez
        · cases ez
      · cases ez
    · cases ez
  · exact q1.elim
/-! ### o.f = e -/
def putF' (f : Str) (v : Val) : List (Str × Val) → List (Str × Val)
  | [] => [(f, v)]
  | (g, x) :: r => if g = f then (g, v) :: r else (g, x) :: putF' f v r
theorem rkv_putF {K : PySem.W.Frag} {mp : List Addr} {H : Hp} {f : Str} {v : Val} {y : V} (rv : RVal K mp H v y) : ∀ {fs : List (Str × Val)} {gs : List (Str × V)}, RKv K mp H fs gs → RKv K mp H (putF' f v fs) (putF f y gs)
  | [], _, r => by cases r; exact .cons ⟨rfl, rv⟩ .nil
  | (c, w) :: fs, [], r => by cases r
  | (c, w) :: fs, (d, z) :: gs, r => by
    cases r with
    | cons p r =>
      obtain ⟨rfl, pv⟩ := p
      dsimp only [putF', putF]
      by_cases e : c = f
      · rw [if_pos e, if_pos e]; exact .cons ⟨rfl, rv⟩ r
      · rw [if_neg e, if_neg e]; exact .cons ⟨rfl, pv⟩ (rkv_putF rv r)
theorem rkv_len {K : PySem.W.Frag} {mp : List Addr} {H : Hp} : ∀ {fs : List (Str × Val)} {gs : List (Str × V)}, RKv K mp H fs gs → fs.length = gs.length
  | [], _, r => by cases r; rfl
  | _ :: fs, [], r => by cases r
  | _ :: fs, _ :: gs, r => by cases r with | cons _ r => exact congrArg (· + 1) (rkv_len r)
def kFld (nat : List (Str × Str)) (f : Str) (v x : Val) : Env → Hh → RS := fun ρ h => match x with
  | .r n => (match h[n]? with
    | some (.ins C fs) => if (C, f) ∈ nat ∧ fs.length < 1000 then .nx ρ (h.set n (.ins C (putF' f v fs))) else .bad
    | _ => .bad)
  | _ => .bad
def sFldD (f : Str) (m a : Ev G) : Sv G := fun T => sEr (m T) fun v => sEr (a T) fun x => kFld G.nat f v x
theorem ds_fld {o e : Expr} {f : Str} {p : Pos} {m a : Ev G} (he : DE G S e m) (ho : DE G S o a)
    (hs : ∀ env : PySem.Env, env.scope = S.sc → env.scope.kind = .function → swapsWith e (some (.Attribute o f p)) pos.line env = pure false := by intro env h hk; first | rfl | (cases env; cases h; rfl)) :
    DS G S (.Assign [.Attribute o f p] e pos) (sFldD f m a) := fun k T X W C => by
  refine (ps_fld (ho k T X W C) (he k T X W C) (hs _ C.sc (by rw [C.sc]; exact C.kd))).wk fun D σ H ⟨mp, ρ, h, R, E, q⟩ => ?_
  refine se_bnd R E q fun v y mp1 h1 H1 X1 R1 E1 r1 q1 => ?_
  refine se_bnd R1 E1 q1 fun x2 y2 mp2 h2 H2 X2 R2 E2 r2 q2 => ?_
  unfold kFld at q2
  split at q2
  · rename_i n
    split at q2
    · rename_i c fs en
      split at q2
      · rename_i hn
        cases r2 with
        | r ma =>
          obtain ⟨a', ea, dx, gs, o1, rx⟩ := R2.at_ _ _ en
          rw [ma] at ea; cases ea
          obtain ⟨cl, na⟩ := C.g.nat _ hn.1
          obtain ⟨R4, X4⟩ := R2.write (u := .ins (He.ga X.K c) dx (putF f y gs)) (o := .ins c (putF' f v fs)) ma ⟨dx, _, upd_same, RKv.mono (R2.extW _ ma) (rkv_putF (r1.mono X2) rx)⟩
          exact ⟨_, _, dx, gs, rfl, o1, cl, na, by rw [← rkv_len rx]; exact hn.2, q2 _ _ _ R4 X4 (E2.mono X4)⟩
      · exact q2.elim
    · exact q2.elim
  · exact q2.elim
end
end Dq
namespace Dq
open PySem PySem.Spec PyProof.Rows L2
section
variable {G : Gm} {S : Sx} {pos : Pos}
/-! ### o.m(e, ..): the class is the instance's own -/
def MethAt (X : L2.Cx) (k : Nat) (m : Str) (E : L2.XK) (a : Addr) (H : Hp) (go : (Sp → Prop) → Prop) : Prop :=
  ∃ C f fd ps sp dx fs, H a = some (.ins C dx fs) ∧ fs.lookup m = none ∧ (Cls X.K C ∧ Meth X.K C m f) ∧
    (FnOk X.prog X.w X.K X.mg X.base (L2.CX X.prog X.w) k f fd ps sp ∧ Binds X.K fd ps []) ∧ go fun s => s = sp
def tMethD (X : L2.Cx) (k : Nat) (m : Str) (E : L2.St → L2.XK) (ta : TE) (t : TA) : TE := fun σ H Q => ta σ H fun x H1 =>
  ∃ a, x = .ref a ∧ MethAt X k m (E σ) a H1 fun is => t σ H1 fun vs H2 => ∀ sp, is sp → sp (x :: vs) H2 Q (E σ)
theorem pe_methD {X : L2.Cx} {W : WX} {k : Nat} {m : Str} {o e : Expr} {es : List Expr} {ta : TE} {t : TA} {apos : Pos} {pl : Sem Bool} (tk : Takes X W) (hr : Room k X.A) (he : PE X o ta) (ha : PA X (e :: es) t)
    (h1 : starEach (e :: es) X.env = (false, eval e X.env) :: starEach es X.env) (h2 : (backTo pos (starEach es X.env)).any (·.1) = false)
    (ht : eval (.Call (.Attribute o m apos) (e :: es) [] pos) X.env = (do
      let u ← eval o X.env
      standAt apos.atName
      let (g, first) ← holding [u] (getMethod u m pl)
      callWith pos g first (backTo pos (starEach (e :: es) X.env)) (backToKw pos (keywordEach [] X.env)))) :
    PE X (.Call (.Attribute o m apos) (e :: es) [] pos) (tMethD X k m (WE W) ta t) := by
  constructor
  intro pins s σ H Q I h
  apply PySem.W.methodCall_KW (pl := pl) _ ht
  apply thn (he.run pins s σ H _ I h)
  rintro u s1 ⟨x, H1, I1, rx, a, rfl, C, f, fd, ps, sp, dx, fs, ea, l, ⟨c, hm⟩, ⟨F, b⟩, q⟩
  obtain rfl : u = Value.ref a := rx
  apply getmeth_ok I1 ea c hm l
  apply PySem.W.callWith_K (first := [.ref a]) (h₀ := X.base) I.ok.mod.kin hm.kp _ h1 h2
  apply thn (ha.run pos pins s1 σ H1 _ I1 q)
  rintro us s2 ⟨vs, H2, I2, r, q2⟩
  exact ⟨I2.kIn, run_fnS (us := Value.ref a :: us) (vs := V.ref a :: vs) F hr b (passAt tk σ) I2 (.cons rfl r) (q2 _ rfl)⟩
theorem pe_methD0 {X : L2.Cx} {W : WX} {k : Nat} {m : Str} {o : Expr} {ta : TE} {apos : Pos} {pl : Sem Bool} (tk : Takes X W) (hr : Room k X.A) (he : PE X o ta)
    (ht : eval (.Call (.Attribute o m apos) [] [] pos) X.env = (do
      let u ← eval o X.env
      standAt apos.atName
      let (g, first) ← holding [u] (getMethod u m pl)
      callWith pos g first (backTo pos (starEach [] X.env)) (backToKw pos (keywordEach [] X.env)))) :
    PE X (.Call (.Attribute o m apos) [] [] pos) (tMethD X k m (WE W) ta tNil) := by
  constructor
  intro pins s σ H Q I h
  apply PySem.W.methodCall_KW (pl := pl) _ ht
  apply thn (he.run pins s σ H _ I h)
  rintro u s1 ⟨x, H1, I1, rx, a, rfl, C, f, fd, ps, sp, dx, fs, ea, l, ⟨c, hm⟩, ⟨F, b⟩, q⟩
  obtain rfl : u = Value.ref a := rx
  apply getmeth_ok I1 ea c hm l
  exact PySem.W.callWith_K0 (first := [.ref a]) I1.kIn hm.kp (run_fnS (us := [Value.ref a]) (vs := [V.ref a]) F hr b (passAt tk σ) I1 (.cons (show RelV (V.ref a) (Value.ref a) from rfl) .nil) (q _ rfl))
theorem rkv_none {K : PySem.W.Frag} {mp : List Addr} {H : Hp} {f : Str} : ∀ {fs : List (Str × Val)} {gs : List (Str × V)}, RKv K mp H fs gs → fs.lookup f = none → gs.lookup f = none
  | [], _, r, _ => by cases r; rfl
  | (c, w) :: fs, [], r, e => by cases r
  | (c, w) :: fs, (d, z) :: gs, r, e => by
    cases r with
    | cons p r =>
      obtain ⟨rfl, pv⟩ := p
      cases hc : (f == c) with
      | true => simp only [List.lookup, hc] at e; cases e
      | false => simp only [List.lookup, hc] at e ⊢; exact rkv_none r e
/-- whose method m the value has -/
def mthOf (G : Gm) (m : Str) : Val → Hh → Option G.F
  | .r n, h => match h[n]? with
    | some (.ins C fs) => if (fs.lookup m).isNone = true then (G.mth.find? fun p => p.1 == C && p.2.1 == m).map (·.2.2) else none
    | _ => none
  | _, _ => none
theorem mthOf_at {m : Str} {x : Val} {h : Hh} {f : G.F} (e : mthOf G m x h = some f) : ∃ n C fs, x = .r n ∧ h[n]? = some (.ins C fs) ∧ fs.lookup m = none ∧ (C, m, f) ∈ G.mth := by
  unfold mthOf at e
  split at e
  · rename_i n
    split at e
    · rename_i C fs en
      split at e
      · rename_i hl
        obtain ⟨⟨c, m', f'⟩, ef, rfl⟩ := Option.map_eq_some_iff.mp e
        have hp := List.find?_some ef
        simp only [Bool.and_eq_true, beq_iff_eq] at hp
        obtain ⟨rfl, rfl⟩ := hp
        exact ⟨n, _, fs, rfl, en, Option.isNone_iff_eq_none.mp hl, List.mem_of_find?_eq_some ef⟩
      · cases e
    · cases e
  · cases e
def eMeth (m : Str) (ma : Ev G) (mb : Av G) : Ev G := fun T => bnd (ma T) fun x ρ h => match mthOf G m x h with
  | some f => bnd (mb T) (fun vs _ h' => if (x :: vs).length = (G.ps f).length then T f (x :: vs) h' else .bad) ρ h
  | none => .bad
theorem d_meth {m : Str} {o e : Expr} {es : List Expr} {ma : Ev G} {mb : Av G} {apos : Pos} {pl : PySem.Env → Sem Bool} (ho : DE G S o ma) (ha : DA G S (e :: es) mb)
    (he : ∀ env, starEach (e :: es) env = (false, eval e env) :: starEach es env := by intro _; rfl) (hpl : ∀ env, (backTo pos (starEach es env)).any (·.1) = false := by intro _; rfl)
    (ht : ∀ env, eval (.Call (.Attribute o m apos) (e :: es) [] pos) env = (do
      let u ← eval o env
      standAt apos.atName
      let (g, first) ← holding [u] (getMethod u m (pl env))
      callWith pos g first (backTo pos (starEach (e :: es) env)) (backToKw pos (keywordEach [] env))) := by intro _; rfl) :
    DE G S (.Call (.Attribute o m apos) (e :: es) [] pos) (eMeth m ma mb) := fun k T X W C => by
  refine (pe_methD C.tk (C.room.mono (Nat.le_succ _)) (ho k T X W C) (ha k T X W C) (he _) (hpl _) (ht _)).wk fun σ H Q ⟨mp, ρ, h, R, E, q⟩ => ?_
  refine res_bnd R E q fun x y mp1 h1 H1 X1 R1 E1 r1 q1 => ?_
  split at q1
  · rename_i f ef
    obtain ⟨n, c, fs, rfl, en, hl, hm⟩ := mthOf_at ef
    cases r1 with
    | r ma1 =>
      obtain ⟨a, ea, dx, gs, o1, rx⟩ := R1.at_ _ _ en
      rw [ma1] at ea; cases ea
      obtain ⟨cl, mt⟩ := C.g.mt _ hm
      obtain ⟨fd, F, b⟩ := C.tab f
      refine ⟨_, rfl, _, _, fd, _, _, dx, gs, o1, rkv_none rx hl, ⟨cl, mt⟩, ⟨F, b⟩, ?_⟩
      refine res_bnd R1 E1 q1 fun vs ys mp2 h2 H2 X2 R2 E2 r2 q2 => ?_
      rintro sp rfl
      split at q2
      · rename_i hn
        refine ⟨mp2, h2, _, R2, .cons (.r (pre_get X2.pre ma1)) r2, hn, ?_⟩
        cases er : T f (Val.r n :: vs) h2 with
        | ok v h' => rw [er] at q2; exact q2
        | exc c h' => rw [er] at q2; exact q2
        | bad => rw [er] at q2; exact q2
      · exact q2.elim
  · exact q1.elim
theorem d_meth0 {m : Str} {o : Expr} {ma : Ev G} {apos : Pos} {pl : PySem.Env → Sem Bool} (ho : DE G S o ma)
    (ht : ∀ env, eval (.Call (.Attribute o m apos) [] [] pos) env = (do
      let u ← eval o env
      standAt apos.atName
      let (g, first) ← holding [u] (getMethod u m (pl env))
      callWith pos g first (backTo pos (starEach [] env)) (backToKw pos (keywordEach [] env))) := by intro _; rfl) :
    DE G S (.Call (.Attribute o m apos) [] [] pos) (eMeth m ma aNil) := fun k T X W C => by
  refine (pe_methD0 C.tk (C.room.mono (Nat.le_succ _)) (ho k T X W C) (ht _)).wk fun σ H Q ⟨mp, ρ, h, R, E, q⟩ => ?_
  refine res_bnd R E q fun x y mp1 h1 H1 X1 R1 E1 r1 q1 => ?_
  split at q1
  · rename_i f ef
    obtain ⟨n, c, fs, rfl, en, hl, hm⟩ := mthOf_at ef
    cases r1 with
    | r ma1 =>
      obtain ⟨a, ea, dx, gs, o1, rx⟩ := R1.at_ _ _ en
      rw [ma1] at ea; cases ea
      obtain ⟨cl, mt⟩ := C.g.mt _ hm
      obtain ⟨fd, F, b⟩ := C.tab f
      refine ⟨_, rfl, _, _, fd, _, _, dx, gs, o1, rkv_none rx hl, ⟨cl, mt⟩, ⟨F, b⟩, ?_⟩
      rintro sp rfl
      unfold bnd aNil at q1
      dsimp only at q1
      split at q1
      · rename_i hn
        refine ⟨mp1, h1, _, R1, .cons (.r ma1) .nil, hn, ?_⟩
        cases er : T f [Val.r n] h1 with
        | ok v h' => rw [er] at q1; exact q1
        | exc c h' => rw [er] at q1; exact q1
        | bad => rw [er] at q1; exact q1
      · exact q1.elim
  · exact q1.elim
end
end Dq
namespace Dq
open PySem PySem.Spec PyProof.Rows L2
section
variable {G : Gm} {S : Sx} {pos : Pos}
/-! ### {} -/
def eDic0 : Ev G := fun _ _ h => .ok (.r h.length) (h ++ [.dic []])
theorem d_dic0 : DE G S (.Dict [] [] pos) (eDic0 (G := G)) := fun k T X W C => by
  refine pe_dnewK.wk fun σ H Q ⟨mp, ρ, h, R, E, q⟩ => ?_
  intro p np
  obtain ⟨R2, X2⟩ := R.alloc (o := .dic []) (u := .dK []) np ⟨[], upd_same, .nil⟩
  exact q _ _ _ R2 X2 (.r (by rw [← R.len]; simp))
end
end Dq
namespace Dq
open PySem PySem.Spec PyProof.Rows L2
/-! ### C(..): an own instance is made -/
section
variable {G : Gm} {S : Sx} {pos : Pos}
/-- a made object and its dict, then the def's promise -/
def tMkD (X : L2.Cx) (C : Addr) (sp : Sp) (E : L2.St → L2.XK) (t : TA) : TE := fun σ H Q => t σ H fun vs H1 => ∀ x dx, H1 x = none → H1 dx = none → dx ≠ x →
  sp (.ref x :: vs) (upd (upd H1 dx (.own x)) x (.ins C dx [])) (fun v H2 => v = .non ∧ Q (.ref x) H2) (E σ)
theorem run_mkD {X : L2.Cx} {W : WX} {k : Nat} {C f : Addr} {fd : FuncData} {ps : List Str} {sp : Sp} {pins : List (Addr × Obj)} {σ : L2.St} {H : Hp} {s : Shared} {Q : VK} {us : List Value} {vs : List V}
    (M : Mk X.K C f) (F : FnOk X.prog X.w X.K X.mg X.base (L2.CX X.prog X.w) k f fd ps sp) (hr : Room (k + 1) X.A) (hb : Binds X.K fd ps []) (tk : Takes X W) (I : Inv X pins σ H s) (r : Vals vs us)
    (h : ∀ x dx, H x = none → H dx = none → dx ≠ x → sp (.ref x :: vs) (upd (upd H dx (.own x)) x (.ins C dx [])) (fun v H2 => v = .non ∧ Q (.ref x) H2) (WE W σ)) :
    wpAny (model X.prog X.w) X.A (call (.ref C) us) (EP X pins σ Q) X.xe s := by
  obtain ⟨z, hz⟩ : ∃ z, z = s.heap.objs.size := ⟨_, rfl⟩
  have q0 := h (z + 1) z (I.hok.fresh (by rw [hz]; exact Nat.le_succ _)) (I.hok.fresh (by rw [hz]; exact Nat.le_refl _)) (Nat.ne_of_lt (Nat.lt_succ_self _))
  subst hz
  have J := Inv.made (C := C) I
  have rv : Vals (V.ref (s.heap.objs.size + 1) :: vs) (Value.ref (s.heap.objs.size + 1) :: us) := .cons rfl r
  have hl : (Value.ref (s.heap.objs.size + 1) :: us).length = ps.length := by rw [← rv.length]; exact F.len _ _ _ _ q0
  have b := hb { s with heap := (s.heap.push PySem.W.emptyDict).push (PySem.W.instObj C s.heap.objs.size) } (Value.ref (s.heap.objs.size + 1) :: us) J.kIn (by rw [List.append_nil]; exact hl)
  rw [List.append_nil] at b
  have go := F.run (X.A.under (.builtin "type.__call__" ⟨.ref C :: us, []⟩)) X.stack _ _ ⟨Value.ref (s.heap.objs.size + 1) :: us, []⟩ _ _ _ _ (hr.make C us []) (J.env0.make C us []) b rv q0
  refine wpAny_call (make_map I.kIn M.makes M.init (beq_iff_eq.mp M.fn) (codeAny_mono go fun res s' hres => ?_))
  cases res with
  | error e => exact passAt tk σ pins _ _ e s' J hres
  | ok fl =>
    cases fl with
    | ret u =>
      obtain ⟨v, H', J', ru, ev, q3⟩ := J.after hres
      subst ev
      exact ⟨ru, V.ref (s.heap.objs.size + 1), H', J', rfl, q3⟩
    | _ => exact hres.elim
theorem pe_mkD {X : L2.Cx} {W : WX} {k : Nat} {x : Str} {C f : Addr} {fd : FuncData} {ps : List Str} {sp : Sp} {e : Expr} {es : List Expr} {t : TA} {p : Pos}
    (M : Mk X.K C f) (F : FnOk X.prog X.w X.K X.mg X.base (L2.CX X.prog X.w) k f fd ps sp) (hr : Room (k + 1) X.A) (hb : Binds X.K fd ps []) (tk : Takes X W) (hg : Gl X x) (hm : X.mg x = some (.ref C)) (ha : PA X (e :: es) t)
    (hdb : (x == ("__debug__" : Str)) = false) (he : starEach (e :: es) X.env = (false, eval e X.env) :: starEach es X.env) (hpl : (backTo pos (starEach es X.env)).any (·.1) = false) :
    PE X (.Call (.Name x p) (e :: es) [] pos) (tMkD X C sp (WE W) t) := by
  constructor
  intro pins s σ H Q I h
  apply wpAny_Call_Name_kw (ld_glob I hg hm _ hdb)
  apply PySem.W.callWith_K (h₀ := X.base) I.ok.mod.kin M.kp _ he hpl
  apply thn (ha.run pos pins s σ H _ I h)
  rintro us s1 ⟨vs, H1, I1, r, q⟩
  exact ⟨I1.kIn, run_mkD M F hr hb tk I1 r q⟩
def eMk (C : Str) (f : G.F) (m : Av G) : Ev G := fun T => bnd (m T) fun vs _ h => if vs.length + 1 = (G.ps f).length then (match T f (.r h.length :: vs) (h ++ [.ins C []]) with
  | .ok (.d .non) h' => .ok (.r h.length) h'
  | .exc c h' => .exc c h'
  | _ => .bad) else .bad
theorem d_mk (i : Nat) {C : Str} {f : G.F} {e : Expr} {es : List Expr} {m : Av G} {p : Pos} (ha : DA G S (e :: es) m) (hm : G.ini[i]? = some (C, f) := by rfl) (hg : GlS S C := by rfl) (hdb : (C == ("__debug__" : Str)) = false := by decide)
    (he : ∀ env, starEach (e :: es) env = (false, eval e env) :: starEach es env := by intro _; rfl) (hpl : ∀ env, (backTo pos (starEach es env)).any (·.1) = false := by intro _; rfl) : DE G S (.Call (.Name C p) (e :: es) [] pos) (eMk C f m) := fun k T X W Cx => by
  obtain ⟨g1, g2⟩ := Cx.g.ini _ (List.mem_of_getElem? hm)
  obtain ⟨fd, F, b⟩ := Cx.tab f
  refine (pe_mkD g2 F Cx.room b Cx.tk (Cx.gl hg) g1 (ha k T X W Cx) hdb (he _) (hpl _)).wk fun σ H Q ⟨mp, ρ, h, R, E, q⟩ => ?_
  refine res_bnd R E q fun vs ys mp1 h1 H1 X1 R1 E1 r1 q1 => ?_
  intro x dx nx nd ne
  split at q1
  · rename_i hl
    obtain ⟨R2, X2⟩ := R1.new (.own x) nd
    have nx2 : (upd H1 dx (.own x)) x = none := by rw [upd_ne (Ne.symm ne)]; exact nx
    obtain ⟨R3, X3⟩ := R2.alloc (o := .ins C []) (u := .ins (He.ga X.K C) dx []) nx2 ⟨dx, [], upd_same, .nil⟩
    have X23 := X2.trans X3
    refine ⟨_, _, .r h1.length :: vs, R3, .cons (.r (by rw [← R1.len]; simp)) (r1.mono X23), by rw [List.length_cons]; exact hl, ?_⟩
    have q2 := Res.shift X23 q1
    cases er : T f (.r h1.length :: vs) (h1 ++ [.ins C []]) with
    | bad => rw [er] at q2; exact q2.elim
    | exc c h' => rw [er] at q2; exact q2
    | ok v h' =>
      rw [er] at q2
      intro mp' y H' R' X' r'
      cases v with
      | d d =>
        cases d with
        | non =>
          cases r' with
          | d r' =>
            cases r'
            exact ⟨rfl, q2 mp' _ H' R' X' (.r (pre_get X'.pre (by rw [← R1.len]; simp)))⟩
        | _ => exact q2.elim
      | _ => exact q2.elim
  · exact q1.elim
end
end Dq
namespace Dq
open PySem PySem.Spec PyProof.Rows L2
section
variable {G : Gm} {S : Sx} {pos : Pos}
/-! ### [.. for .. in .. for .. in ..] -/
/-- one loop that fills a list that is there -/
theorem lc_in {X : Cx} {T : Tab G} {g : Tg} {o : List Nat} {t : Tv G} {e : Ev G} {vs : List Nat} (ho : ∀ i ∈ o, i ∈ vs) {σ : L2.St} {ρ : Env} {mp1 : List Addr} {h1 : Hh} {H1 : Hp} {D : Addr} {n : Nat} (R1 : HRel X.K mp1 H1 h1) (E1 : ERel X.K mp1 H1 ρ σ)
    (hn1 : mp1[n]? = some D) {i0 : Itr'} {J : It} (rJ : rI X.K mp1 H1 i0 J) {hf : Hh} (eq : lcGo n i0.chk g (wipeE ρ vs) (t T) (e T) i0.vs h1 = some hf) {Nx : Hp → Prop} (hN : ∀ mp H, HRel X.K mp H hf → Ext X.K mp1 H1 mp H → Nx H) :
    ∃ W1 : Nat → Nat → Hp → Prop, (∃ m, W1 0 m H1) ∧ ∀ j k H, W1 j k H → (J.stop j H ∧ Nx H) ∨ (J.go j H ∧ ∃ Nx1 : Hp → Prop, (∀ H', Nx1 H' → ∃ k', k' < k ∧ W1 (j + 1) k' H') ∧ ∀ x H', J.yld j H x H' →
      LftG X.K o g x (L2.wipe σ vs) H' fun σ3 H5 => L2.wipe σ3 vs = L2.wipe σ vs ∧ Lft X.K rB W0 (t T) σ3 H5 fun b H6 =>
        if b = true then Lft X.K (rV X.K) W0 (e T) σ3 H6 fun y H7 => ∃ acc, H7 D = some (.lst acc) ∧ acc.length < sizeLine ∧ Nx1 (upd H7 D (.lst (acc ++ [y]))) else Nx1 H6) := by
  refine ⟨fun i m H => m = i0.vs.length - i ∧ ∃ mp h, HRel X.K mp H h ∧ Ext X.K mp1 H1 mp H ∧ mp[n]? = some D ∧ lcGo n i0.chk g (wipeE ρ vs) (t T) (e T) (i0.vs.drop i) h = some hf,
      ⟨_, rfl, _, _, R1, .refl, hn1, by rw [List.drop_zero]; exact eq⟩, ?_⟩
  rintro i m H ⟨rfl, mp, h, R, X0, hn, eq⟩
  cases ed : i0.vs.drop i with
  | nil =>
    rw [ed] at eq
    unfold lcGo at eq
    split at eq
    · rename_i hc
      have st := (rJ i mp h H X0 R hc).2 (by have := congrArg List.length ed; rw [List.length_drop, List.length_nil] at this; omega)
      cases eq
      exact .inl ⟨st, hN mp H R X0⟩
    · cases eq
  | cons v vs' =>
    obtain ⟨hv, hvs, hl⟩ := drop_cons ed
    rw [ed] at eq
    unfold lcGo at eq
    split at eq
    · rename_i hc
      obtain ⟨hgo, hy⟩ := (rJ i mp h H X0 R hc).1 v hv
      split at eq
      · rename_i ρ' eg
        refine .inr ⟨hgo, fun H' => ∃ mp' h', HRel X.K mp' H' h' ∧ Ext X.K mp1 H1 mp' H' ∧ mp'[n]? = some D ∧ lcGo n i0.chk g (wipeE ρ vs) (t T) (e T) (i0.vs.drop (i + 1)) h' = some hf,
          fun H' n' => ⟨_, by omega, rfl, n'⟩, fun x H' y => ?_⟩
        obtain ⟨R3, X3, r3⟩ := hy x H' y
        have X03 := X0.trans X3
        refine ⟨mp, wipeE ρ vs, h, v, ρ', R3, (E1.mono X03).wipe vs, r3, eg, fun σ' E' w' => ⟨?_, mp, ρ', h, R3, E', ?_⟩⟩
        · rw [w' vs ho, wipe_sub fun _ hi => hi]
        · split at eq
          · rename_i h3 et
            rw [et]
            intro mp4 y4 H4 R4 X4 r4
            cases r4
            rw [if_pos rfl]
            split at eq
            · rename_i y' h5 ee
              refine ⟨mp4, ρ', h3, R4, E'.mono X4, ?_⟩
              rw [ee]
              intro mp5 y5 H5 R5 X5 r5
              split at eq
              · rename_i acc ea
                split at eq
                · rename_i hz
                  have hn5 := pre_get (X4.trans X5).pre hn
                  obtain ⟨xs, o1, rx⟩ := R5.obj hn5 ea
                  refine ⟨xs, o1, by rw [← rx.length]; exact hz, ?_⟩
                  obtain ⟨R6, X6⟩ := R5.write (u := .lst (xs ++ [y5])) (o := .lst (acc ++ [y'])) hn5 ⟨_, upd_same, ((rx.append (.cons r5 .nil)).mono (R5.extW _ hn5))⟩
                  exact ⟨mp5, _, R6, ((X03.trans X4).trans X5).trans X6, hn5, by rw [hvs]; exact eq⟩
                · cases eq
              · cases eq
            · cases eq
          · rename_i h3 et
            rw [et]
            intro mp4 y4 H4 R4 X4 r4
            cases r4
            rw [if_neg Bool.false_ne_true]
            exact ⟨mp4, h3, R4, X03.trans X4, pre_get X4.pre hn, by rw [hvs]; exact eq⟩
          · cases eq
      · cases eq
    · cases eq
open Classical in
noncomputable def lcGo2 (n : Nat) (chk : Hh → Prop) (g : Tg) (ρ : Env) (t : Env → Hh → R Bool) (it1 : Env → Hh → R Itr') (g1 : Tg) (vs1 : List Nat) (t1 : Env → Hh → R Bool) (e : Env → Hh → R Val) : List Val → Hh → Option Hh
  | [], h => if chk h then some h else none
  | v :: vs, h => if chk h then (match g v ρ with
    | some ρ' => (match t ρ' h with
      | .ok true h1 => (match it1 ρ' h1 with
        | .ok i1 h2 => (match lcGo n i1.chk g1 (wipeE ρ' vs1) t1 e i1.vs h2 with
          | some h3 => lcGo2 n chk g ρ t it1 g1 vs1 t1 e vs h3
          | none => none)
        | _ => none)
      | .ok false h1 => lcGo2 n chk g ρ t it1 g1 vs1 t1 e vs h1
      | _ => none)
    | none => none) else none
noncomputable def eLc2 (it : Iv G) (g : Tg) (t : Tv G) (it1 : Iv G) (g1 : Tg) (t1 : Tv G) (e : Ev G) (vs vs1 : List Nat) : Ev G := fun T => bnd (it T) fun i ρ h => match lcGo2 h.length i.chk g (wipeE ρ vs) (t T) (it1 T) g1 vs1 (t1 T) (e T) i.vs (h ++ [.lst []]) with
  | some h' => .ok (.r h.length) h'
  | none => .bad
theorem lc2_t {X : Cx} {W : WX} {T : Tab G} {it it1 : Iv G} {g g1 : Tg} {o o1 : List Nat} {t t1 : Tv G} {e : Ev G} {vs vs1 : List Nat} (ho : ∀ i ∈ o, i ∈ vs) (ho1 : ∀ i ∈ o1, i ∈ vs1) {σ : L2.St} {H : Hp} {Q : VK} (x : Lft X.K (rV X.K) W (eLc2 it g t it1 g1 t1 e vs vs1 T) σ H Q) :
    tLc2 (Lft X.K (rI X.K) W (it T)) (LftG X.K o g) (Lft X.K rB W0 (t T)) (Lft X.K (rI X.K) W0 (it1 T)) (LftG X.K o1 g1) (Lft X.K rB W0 (t1 T)) (Lft X.K (rV X.K) W0 (e T)) vs vs1 σ H Q := by
  obtain ⟨mp, ρ, h, R, E, q⟩ := x
  refine res_bnd R E q fun i0 J mp1 h1 H1 X1 R1 E1 rJ q1 => ?_
  intro D hD
  split at q1
  · rename_i hf eq
    obtain ⟨R2, X2⟩ := R1.alloc (o := .lst []) (u := .lst []) hD ⟨[], upd_same, .nil⟩
    refine ⟨fun i m H => m = i0.vs.length - i ∧ ∃ mp h, HRel X.K mp H h ∧ Ext X.K mp1 H1 mp H ∧ mp[h1.length]? = some D ∧ lcGo2 h1.length i0.chk g (wipeE ρ vs) (t T) (it1 T) g1 vs1 (t1 T) (e T) (i0.vs.drop i) h = some hf,
      ⟨_, rfl, _, _, R2, X2, by rw [← R1.len]; simp, by rw [List.drop_zero]; exact eq⟩, ?_⟩
    rintro i m H ⟨rfl, mp, h, R, X0, hn, eq⟩
    cases ed : i0.vs.drop i with
    | nil =>
      rw [ed] at eq
      unfold lcGo2 at eq
      split at eq
      · rename_i hc
        have st := (rJ i mp h H X0 R hc).2 (by have := congrArg List.length ed; rw [List.length_drop, List.length_nil] at this; omega)
        cases eq
        exact .inl ⟨st, q1 mp _ H R X0 (.r hn)⟩
      · cases eq
    | cons v vs' =>
      obtain ⟨hv, hvs, hl⟩ := drop_cons ed
      rw [ed] at eq
      unfold lcGo2 at eq
      split at eq
      · rename_i hc
        obtain ⟨hgo, hy⟩ := (rJ i mp h H X0 R hc).1 v hv
        split at eq
        · rename_i ρ' eg
          refine .inr ⟨hgo, fun H' => ∃ mp' h', HRel X.K mp' H' h' ∧ Ext X.K mp1 H1 mp' H' ∧ mp'[h1.length]? = some D ∧ lcGo2 h1.length i0.chk g (wipeE ρ vs) (t T) (it1 T) g1 vs1 (t1 T) (e T) (i0.vs.drop (i + 1)) h' = some hf,
            fun H' n' => ⟨_, by omega, rfl, n'⟩, fun x H' y => ?_⟩
          obtain ⟨R3, X3, r3⟩ := hy x H' y
          have X03 := X0.trans X3
          refine ⟨mp, wipeE ρ vs, h, v, ρ', R3, (E1.mono X03).wipe vs, r3, eg, fun σ' E' w' => ⟨?_, mp, ρ', h, R3, E', ?_⟩⟩
          · rw [w' vs ho, wipe_sub fun _ hi => hi]
          · split at eq
            · rename_i h3 et
              rw [et]
              intro mp4 y4 H4 R4 X4 r4
              cases r4
              rw [if_pos rfl]
              split at eq
              · rename_i j1 h5 ee
                split at eq
                · rename_i h6 e6
                  refine ⟨mp4, ρ', h3, R4, E'.mono X4, ?_⟩
                  rw [ee]
                  intro mp5 J5 H5 R5 X5 r5
                  have X45 := X4.trans X5
                  exact lc_in ho1 R5 ((E'.mono X45)) (pre_get X45.pre hn) r5 e6 fun mp7 H7 R7 X7 => ⟨mp7, h6, R7, (X03.trans X45).trans X7, pre_get (X45.trans X7).pre hn, by rw [hvs]; exact eq⟩
                · cases eq
              · cases eq
            · rename_i h3 et
              rw [et]
              intro mp4 y4 H4 R4 X4 r4
              cases r4
              rw [if_neg Bool.false_ne_true]
              exact ⟨mp4, h3, R4, X03.trans X4, pre_get X4.pre hn, by rw [hvs]; exact eq⟩
            · cases eq
        · cases eq
      · cases eq
  · exact q1.elim
theorem d_lc2 {elt tg iter tg1 iter1 : Expr} {ifs ifs1 : List Expr} {scope : Scope} {it it1 : Iv G} {g g1 : Tg} {o o1 : List Nat} {t t1 : Tv G} {e : Ev G} (own : List (Str × Nat)) (vs1 : List Nat) (hi : DI G S tg iter it) (hg : DG G (S.blk scope) tg o g) (ht : DTs G (S.blk scope) ifs t)
    (hi1 : DI G (S.blk scope) tg1 iter1 it1) (hg1 : DG G (S.blk scope) tg1 o1 g1) (ht1 : DTs G (S.blk scope) ifs1 t1) (he : DE G (S.blk scope) elt e)
    (ok : blkC S.N S.sc scope own = true := by decide +kernel) (ho : ∀ i ∈ o, i ∈ own.map (·.2) := by decide) (ho1 : ∀ i ∈ o1, i ∈ vs1 := by decide) (hv : ∀ i ∈ vs1, i ∈ own.map (·.2) := by decide)
    (hs : ∀ env x, foldedSetIterable iter env x = pure x := by intro _ _; rfl) (hs1 : ∀ env x, foldedSetIterable iter1 env x = pure x := by intro _ _; rfl) :
    DE G S (.ListComp elt [⟨tg, iter, ifs, 0⟩, ⟨tg1, iter1, ifs1, 0⟩] scope pos) (eLc2 it g t it1 g1 t1 e (own.map (·.2)) vs1) := fun k T X W C => by
  have ok := blkOk_by ok
  exact (pe_lc2 (wi := Lft X.K (rI X.K) W (it T)) (g := LftG X.K o g) (tt := Lft X.K rB W0 (t T)) (wi1 := Lft X.K (rI X.K) W0 (it1 T)) (g1 := LftG X.K o1 g1) (tt1 := Lft X.K rB W0 (t1 T)) (te := Lft X.K (rV X.K) W0 (e T)) C.calm (by rw [C.N]; exact C.nd) (hi k T X W C) (by rw [C.N, C.sc]; exact ok) hv
    (fun s H Cc cl fp => hg k T _ _ (C.blk ok.kind s H Cc cl fp)) (fun s H Cc cl fp => ht k T _ _ (C.blk ok.kind s H Cc cl fp)) (fun s H Cc cl fp => hi1 k T _ _ (C.blk ok.kind s H Cc cl fp)) (fun s H Cc cl fp => hg1 k T _ _ (C.blk ok.kind s H Cc cl fp)) (fun s H Cc cl fp => ht1 k T _ _ (C.blk ok.kind s H Cc cl fp))
    (fun s H Cc cl fp => he k T _ _ (C.blk ok.kind s H Cc cl fp)) (hs _) hs1).wk fun σ H Q x => lc2_t ho ho1 x
end
end Dq
namespace Dq
open PySem PySem.Spec PyProof.Rows L2
/-! ### enumerate of a tuple -/
theorem meets_enum_one {v : Value} {ob : Obj} {Hb : Heap → Prop} (B : Begins v ob Hb) :
    Meets (Builtin.«enumerate.__new__» ⟨[.type "enumerate", v], []⟩) (fun _ R st => Hb st.heap ∧
      R (.ok (.ret (.ref (st.heap.push ob).objs.size))) { st with heap := (st.heap.push ob).push { cls := .type "enumerate", data := .fields #[.none, .bool false, .ref st.heap.objs.size, rawInt 0, .none, .none] } }) :=
  .of_wp fun P0 w0 A0 R0 st hyp => by
    obtain ⟨hp, ge, dr, tk, os⟩ := st
    obtain ⟨hb1, hyp⟩ := hyp
    have hsub := sub_enumerate
    have go : ∀ {A' : Around} {E' : Value → Shared → Prop} {Q' : Value → Shared → Prop}, Q' (.ref hp.objs.size) ⟨hp.push ob, ge, dr, tk, os⟩ → wpAny (model P0 w0) A' (pyIter v) Q' E' ⟨hp, ge, dr, tk, os⟩ :=
      fun q => B.iter P0 w0 _ _ ⟨hp, ge, dr, tk, os⟩ _ hb1 q
    wp_walk using go
    refine wpAny_stack_any fun sk => wpAny_pure ?_
    split
    · rename_i cc _ _ _ _ _
      cases (cc == Value.type "enumerate") <;> (wp_walk using go; exact ⟨_, rfl, hyp⟩)
    · wp_walk using go
      exact ⟨_, rfl, hyp⟩
theorem enum_one {prog : Program} {w : World} {A : Around} {E : Value → Shared → Prop} {s : Shared} {v : Value} {ob : Obj} {Hb : Heap → Prop} {Q : Value → Shared → Prop} (B : Begins v ob Hb) (hb1 : Hb s.heap)
    (h : ∀ h', IsEnum h' (s.heap.objs.size + 1) s.heap.objs.size 0 .none → h'.get? s.heap.objs.size = some ob → (∀ b o, s.heap.get? b = some o → h'.get? b = some o) → Q (.ref (s.heap.objs.size + 1)) { s with heap := h' }) :
    wpAny (model prog w) A (call (.type "enumerate") [v]) Q E s := by
  apply callType_new F.called_enumerate (by decide) (F.typeCall_enumerate_1 _) (F.newCall_enumerate_1 _) (fun obj => F.args_object_init_2 obj _) F.entry_enumerate_new (meets_enum_one B)
  refine ⟨hb1, ?_⟩
  have z : (s.heap.push ob).objs.size = s.heap.objs.size + 1 := Heap.size_push ..
  show _ ∧ _
  rw [z]
  have q := Heap.get?_push_size (s.heap.push ob) (o := { cls := .type "enumerate", data := .fields #[.none, .bool false, .ref s.heap.objs.size, rawInt 0, .none, .none] }) rfl
  rw [z] at q
  exact ⟨⟨_, q, rfl⟩, h _ q (Heap.get?_push_of_some _ (Heap.get?_push_size _ B.free)) fun b o x => Heap.get?_push_of_some _ (Heap.get?_push_of_some _ x)⟩
/-- the tuple at a, its items with their numbers in new pairs -/
def IteT (K : PySem.W.Frag) (a : Addr) : It :=
  ⟨fun i H => ∃ (xs : List V) (x : V), SqT K H a xs ∧ xs[i]? = some x, fun i H v H' => ∃ T x, v = .ref T ∧ H T = none ∧ H' = upd H T (.tup [.int (i : Nat), x]) ∧ ∀ xs, SqT K H a xs → xs[i]? = some x, fun i H => ∃ xs : List V, SqT K H a xs ∧ xs.length ≤ i⟩
theorem turn_enumT {P : Program} {w : World} {K : PySem.W.Frag} {elts : List Expr} {kk : Nat} {tpos : Pos} (a e it : Addr) (hea : e ≠ a) (hei : e ≠ it) (hai : a ≠ it) :
    Turn P w K (.Tuple elts kk tpos) (IteT K a) [e, it] e (fun i h => (∃ old, IsEnum h e it ((i : Nat) : Int) old) ∧ h.IsTupleIter it a i) where
  mem := List.mem_cons_self ..
  obj := fun i h st b hb => by
    obtain ⟨⟨old, he⟩, ⟨o, ho, hc, hd⟩⟩ := st
    rcases List.mem_cons.mp hb with z | z
    · rw [z]; exact ⟨_, he, fun v q => nomatch q⟩
    · rw [List.mem_singleton.mp z]; exact ⟨o, ho, fun v q => by rw [hd] at q; cases q⟩
  keep := fun i h h' st k => let ⟨⟨old, he⟩, hi⟩ := st; ⟨⟨old, k e (by simp) _ he⟩, hi.at fun o q => k it (by simp) o q⟩
  item := by
    intro X hP hw hK hc i pins s σ H E I hf st hg
    subst hP hw hK
    obtain ⟨⟨old, he⟩, hit⟩ := st
    obtain ⟨xs, x, hq, hx⟩ := hg
    obtain ⟨its, rv, p, hz⟩ := I.tuple hq
    obtain ⟨u, hu, ru⟩ := rv.get hx
    have hlt : i < its.toArray.size := by simpa using (List.getElem?_eq_some_iff.mp hu).1
    have hel : e < s.heap.objs.size := Heap.lt_size he
    have hil : it < s.heap.objs.size := by obtain ⟨_, q, _⟩ := hit; exact Heap.lt_size q
    have Dr := Draws.tuple (prog := X.prog) (w := X.w) (A := X.A.in1) (I.ok.hd hc) it a hai its.toArray
    refine wpAny_pyNext_enum_itemC Dr he ⟨hit, p⟩ hlt hei (by simp [hei, hea]) fun y h' tk hP ho hs' hT hsz hk => ?_
    have ey : y = u := by
      have q : its.toArray[i]? = some y := hP
      rw [List.getElem?_toArray, hu] at q
      exact (Option.some.inj q).symm
    subst ey
    refine ⟨_, rfl, wpAny_letOwnedTupleGo_enum (s := { s with heap := h', toks := tk + 1 }) ho fun h'' he' sb => ?_⟩
    have new : ObjOk X.prog X.w (upd H s.heap.objs.size (.tup [.int (i : Nat), x])) h'' s.heap.objs.size (.tup [.int (i : Nat), x]) :=
      ⟨by show 2 ≤ sizeLine; decide, [.int i tk, y], .cons ⟨_, rfl⟩ (.cons ru .nil), ⟨_, (sb.2 _ (Nat.ne_of_gt hel)).trans hT, rfl, _, rfl⟩⟩
    have J : Inv X pins σ (upd H s.heap.objs.size (.tup [.int (i : Nat), x])) { s with heap := h'', toks := tk + 1 } :=
      I.turnedNew (ch := [e, it]) (fun b ob hb q => (sb.2 b (fun z => hb (by simp [z]))).trans (hk b ob (fun z => hb (by simp [z])) (fun z => hb (by simp [z])) q)) hf (Nat.le_refl _) new
    have e1 : ((i + 1 : Nat) : Int) = (i : Int) + 1 := by omega
    refine ⟨.ref s.heap.objs.size, _, J, rfl, ⟨_, x, rfl, I.hok.fresh (Nat.le_refl _), rfl, fun ys hy => by rw [I.tuple_inj hy hq]; exact hx⟩, ⟨⟨y, by rw [e1]; exact he'⟩, hs'.1.at fun o q => (sb.2 it (Ne.symm hei)).trans q⟩, fun b hb => ?_⟩
    have hb' : b < s.heap.objs.size := by
      rcases List.mem_cons.mp hb with z | z
      · rw [z]; exact hel
      · rw [List.mem_singleton.mp z]; exact hil
    rw [upd_ne (Nat.ne_of_lt hb')]
    exact (hf b hb).1
  done := by
    intro X hP hw hK hc i pins s σ H E I hf st hg
    subst hP hw hK
    obtain ⟨⟨old, he⟩, hit⟩ := st
    obtain ⟨xs, hq, hx⟩ := hg
    obtain ⟨its, rv, p, hz⟩ := I.tuple hq
    obtain ⟨f0, f1, f2, f3, f4, f5⟩ := hf it (by simp)
    have hl := rv.length
    have hh : X.A.in1.handled = none := I.ok.hd hc
    have Dr : Draws X.prog X.w X.A.in1 it [it, a] i (fun _ _ => True) (fun j h => j = i ∧ h.IsTupleIter it a i ∧ h.IsTuple a its.toArray) :=
      { live := fun _ _ q => let ⟨o, ho, _⟩ := q.2.1; ⟨o, ho⟩
        frame := fun _ _ _ q k => ⟨q.1, q.2.1.at fun o z => k it (by simp) o z, q.2.2.at fun o z => k a (by simp) o z⟩
        item := fun j st Q E hj q _ => absurd q.1 (Nat.ne_of_lt hj)
        done := fun st Q E q hE => wpAny_nextOf_tuple_end hh q.2.1 q.2.2 (by simp; omega) hE }
    exact wpAny_pyNext_enum_endD Dr he ⟨rfl, hit, p⟩ fun h' eb => ⟨rfl, I.turned (t' := s.toks) (fun b o hb q => eb b o hb q) f0 f1 f3 f4 f5⟩
  self := fun A i s Q E st h => let ⟨⟨_, he⟩, _⟩ := st; wpAny_pyIter_enum he h
def iEnumA (K : PySem.W.Frag) (ta : TA) : TI := fun σ H R => ta σ H fun vs H1 => ∃ a xs, vs = [.ref a] ∧ ((SqL K H1 a xs ∧ R (Ite K a) H1) ∨ (SqT K H1 a xs ∧ R (IteT K a) H1))
theorem pi_enumA {X : Cx} {e : Expr} {ta : TA} {p pos tpos : Pos} {elts : List Expr} {kk : Nat} (hg : Gl X "enumerate") (hm : X.mg "enumerate" = none) (ha : PA X [e] ta) (hs : starEach [e] X.env = [(false, eval e X.env)] := by rfl) :
    PI X (.Tuple elts kk tpos) (.Call (.Name "enumerate" p) [e] [] pos) (iEnumA X.K ta) := by
  constructor
  intro pins s σ H R I h
  refine Call_ (ld_blt I hg hm boot_enumerate ?_)
  refine PyProof.Rows.callWith_type1 (thn (ha.run pos pins s σ H _ I h) fun us s1 ⟨vs, H1, I1, r1, a, xs, ex, q1⟩ => ?_) hs rfl
  subst ex
  cases r1 with
  | cons r rr =>
    cases rr
    cases r
    rcases q1 with ⟨hq, q⟩ | ⟨hq, q⟩
    · obtain ⟨its, rv, p', hz⟩ := I1.list hq
      refine call_enumerate_list p'.isList fun h' he hit hsz hk => wpAny_pyIter_enum he ?_
      have J : Inv X pins σ H1 { s1 with heap := h' } := I1.kept (t' := s1.toks) hk
      refine ⟨s1.heap.objs.size + 1, [s1.heap.objs.size + 1, s1.heap.objs.size], _, _, H1, rfl, J, turn_enum a (s1.heap.objs.size + 1) s1.heap.objs.size, ⟨⟨.none, he⟩, hit, Nat.succ_ne_self _⟩, fun b hb => ?_, q⟩
      have hle : s1.heap.objs.size ≤ b := by
        rcases List.mem_cons.mp hb with z | z
        · rw [z]; exact Nat.le_succ _
        · rw [List.mem_singleton.mp z]; exact Nat.le_refl _
      exact I1.fpOk hle (I1.hok.fresh hle)
    · obtain ⟨its, rv, p', hz⟩ := I1.tuple hq
      have hal : a < s1.heap.objs.size := by obtain ⟨_, z, _⟩ := id p'; exact Heap.lt_size z
      refine enum_one (begins_tuple a its.toArray) p' fun h' he hit hk => wpAny_pyIter_enum he ?_
      have J : Inv X pins σ H1 { s1 with heap := h' } := I1.kept (t' := s1.toks) hk
      refine ⟨s1.heap.objs.size + 1, [s1.heap.objs.size + 1, s1.heap.objs.size], _, _, H1, rfl, J, turn_enumT a (s1.heap.objs.size + 1) s1.heap.objs.size (Nat.ne_of_gt (Nat.lt_succ_of_lt hal)) (Nat.succ_ne_self _) (Nat.ne_of_lt hal), ⟨⟨.none, he⟩, ⟨_, hit, rfl, rfl⟩⟩, fun b hb => ?_, q⟩
      have hle : s1.heap.objs.size ≤ b := by
        rcases List.mem_cons.mp hb with z | z
        · rw [z]; exact Nat.le_succ _
        · rw [List.mem_singleton.mp z]; exact Nat.le_refl _
      exact I1.fpOk hle (I1.hok.fresh hle)
section
variable {G : Gm} {S : Sx} {pos : Pos}
def enumB2 (v : Val) (h : Hh) : Option Itr' := match tupOf v with
  | some vs => some ⟨enumV 0 vs, fun _ => True⟩
  | none => enumB v h
def iEnum2 (m : Av G) : Iv G := fun T => bnd (m T) fun vs _ h => match vs with
  | [v] => (match enumB2 v h with
    | some it => .ok it h
    | none => .bad)
  | _ => .bad
theorem di_enum2 {e : Expr} {elts : List Expr} {kk : Nat} {tpos p : Pos} {m : Av G} (ha : DA G S [e] m) (hg : GlS S "enumerate" := by rfl) (hm : ("enumerate" : Str) ∈ G.blt := by decide +kernel) (hs : ∀ env, starEach [e] env = [(false, eval e env)] := by intro _; rfl) :
    DI G S (.Tuple elts kk tpos) (.Call (.Name "enumerate" p) [e] [] pos) (iEnum2 m) := fun k T X W C => by
  refine (pi_enumA (C.gl hg) (C.g.bl _ hm) (ha k T X W C) (hs _)).wk fun σ H Q ⟨mp, ρ, h, R, E, q⟩ => ?_
  refine res_bnd R E q fun v y mp1 h1 H1 X1 R1 E1 r1 q1 => ?_
  split at q1
  · rename_i v
    split at q1
    · rename_i it e
      cases r1 with
      | cons ra rn =>
        cases rn
        unfold enumB2 at e
        split at e
        · rename_i vs et
          cases e
          obtain ⟨a, xs, rfl, s1, rx⟩ := tup_rel ra et
          refine ⟨a, xs, rfl, .inr ⟨s1, q1 mp1 _ H1 R1 .refl ?_⟩⟩
          intro i mp2 h2 H2 E2 R2 _
          have s2 := E2.tup _ _ s1
          have ry := rx.mono E2
          refine ⟨fun u eu => ?_, fun hl => ⟨xs, s2, by rw [enumV_len, ry.length] at hl; exact hl⟩⟩
          obtain ⟨w, ew, rfl⟩ := enumV_get eu
          obtain ⟨z, ez, rz⟩ := ry.get ew
          refine ⟨⟨xs, z, s2, ez⟩, ?_⟩
          rintro _ _ ⟨Tp, z', rfl, np, rfl, hz⟩
          have e3 := hz xs s2
          rw [ez] at e3; cases e3
          obtain ⟨R3, X3⟩ := R2.new (.tup [.int ((i : Nat) : Int), z]) np
          refine ⟨R3, X3, ?_⟩
          rw [Nat.zero_add]
          exact mkTup_rel (.of upd_same) (.cons (.d (.int _)) (.cons (rz.mono X3) .nil))
        · unfold enumB at e
          split at e
          · rename_i n _
            split at e
            · rename_i vs en
              cases e
              cases ra with
              | r ma =>
                obtain ⟨xs, o1, rx⟩ := R1.obj ma en
                refine ⟨_, xs, rfl, .inl ⟨.of o1, q1 mp1 _ H1 R1 .refl ?_⟩⟩
                intro i mp2 h2 H2 E2 R2 hc
                obtain ⟨ys, o2, ry⟩ := R2.obj (pre_get E2.pre ma) hc
                have s2 : SqL X.K H2 _ ys := .of o2
                refine ⟨fun u eu => ?_, fun hl => ⟨ys, s2, by rw [enumV_len, ry.length] at hl; exact hl⟩⟩
                obtain ⟨w, ew, rfl⟩ := enumV_get eu
                obtain ⟨z, ez, rz⟩ := ry.get ew
                refine ⟨⟨ys, z, s2, ez⟩, ?_⟩
                rintro _ _ ⟨Tp, z', rfl, np, rfl, hz⟩
                have e3 := hz ys s2
                rw [ez] at e3; cases e3
                obtain ⟨R3, X3⟩ := R2.new (.tup [.int ((i : Nat) : Int), z]) np
                refine ⟨R3, X3, ?_⟩
                rw [Nat.zero_add]
                exact mkTup_rel (.of upd_same) (.cons (.d (.int _)) (.cons (rz.mono X3) .nil))
            · cases e
          · rename_i ds _
            cases e
            cases ra with
            | fz s1 rd =>
              refine ⟨_, _, rfl, .inl ⟨s1.sq, q1 mp1 _ H1 R1 .refl ?_⟩⟩
              intro i mp2 h2 H2 E2 R2 _
              have s2 := (s1.mono E2).sq
              have ry := (rd.vals (mp := mp1)).mono E2
              refine ⟨fun u eu => ?_, fun hl => ⟨_, s2, by rw [enumV_len, ry.length] at hl; exact hl⟩⟩
              obtain ⟨w, ew, rfl⟩ := enumV_get eu
              obtain ⟨z, ez, rz⟩ := ry.get ew
              refine ⟨⟨_, z, s2, ez⟩, ?_⟩
              rintro _ _ ⟨Tp, z', rfl, np, rfl, hz⟩
              have e3 := hz _ s2
              rw [ez] at e3; cases e3
              obtain ⟨R3, X3⟩ := R2.new (.tup [.int ((i : Nat) : Int), z]) np
              refine ⟨R3, X3, ?_⟩
              rw [Nat.zero_add]
              exact mkTup_rel (.of upd_same) (.cons (.d (.int _)) (.cons (rz.mono X3) .nil))
          · cases e
    · exact q1.elim
  · exact q1.elim
/-! ### l.index(x) -/
def firstAt (x : D) : List D → Option Nat
  | [] => none
  | y :: ys => if y.eqv x = true then some 0 else (firstAt x ys).map (· + 1)
theorem firstAt_ok {x : D} : ∀ {ds : List D} {j : Nat}, firstAt x ds = some j → ∃ z, (pys ds)[j]? = some z ∧ PyData.eqv z x.py = true ∧ ∀ (m : Nat) (z' : PyData), m < j → (pys ds)[m]? = some z' → PyData.eqv z' x.py = false
  | [], j, e => by cases e
  | y :: ys, j, e => by
    unfold firstAt at e
    split at e
    · rename_i hy
      cases e
      exact ⟨y.py, rfl, by rw [eqv_py]; exact hy, fun m z' hm => absurd hm (Nat.not_lt_zero _)⟩
    · rename_i hy
      obtain ⟨i, ei, rfl⟩ := Option.map_eq_some_iff.mp e
      obtain ⟨z, e1, e2, e3⟩ := firstAt_ok ei
      refine ⟨z, by rw [pys]; simpa using e1, e2, fun m z' hm hz => ?_⟩
      cases m with
      | zero =>
        rw [pys] at hz
        have := Option.some.inj hz
        subst this
        rw [eqv_py]
        simpa using hy
      | succ m => rw [pys] at hz; exact e3 m z' (by omega) (by simpa using hz)
def vIndex (a : Val) (bs : List Val) (h : Hh) : Option (Val × Hh) := match a, bs with
  | .r n, [.d x] => (match h[n]? with
    | some (.lst vs) => (allD vs).bind fun ds => if x.fit 64 = true ∧ fits 63 ds = true then (firstAt x ds).map fun j => (.d (.int ((j : Nat) : Int)), h) else none
    | _ => none)
  | _, _ => none
theorem d_index {o e : Expr} {ma : Ev G} {mb : Av G} {apos : Pos} (ho : DE G S o ma) (ha : DA G S [e] mb) (hbase : ∀ env, attributeBase o "index" env (eval o env) = eval o env := by intro _; rfl)
    (hfew : ∀ env, ((backTo pos (starEach [e] env)).all (fun x => !x.1) && (backToKw pos (keywordEach [] env)).all (fun x => x.1.isSome)
      && decide (([e] : List Expr).length + ([] : List Keyword).length + (if ([] : List Keyword).isEmpty then 0 else 1) < 30)) = true := by intro _; rfl)
    (hline : (apos.endLine == pos.line) = true := by rfl) (hs : ∀ env, starEach [e] env = (false, eval e env) :: starEach [] env := by intro _; rfl) (hplain : ∀ env, (backTo pos (starEach [] env)).any (·.1) = false := by intro _; rfl) :
    DE G S (.Call (.Attribute o "index" apos) [e] [] pos) (oM isLst vIndex ma mb) := fun k T X W C => by
  refine (pe_bm PySem.F.plainAttrs_list PySem.F.slot_list_index PySem.F.type_list_index (mt_indexD C.un) (ho k T X W C) (ha k T X W C) (hbase _) (hfew _) hline (hs _) (hplain _)).wk fun σ H Q ⟨mp, ρ, h, R, E, q⟩ => ?_
  refine res_bnd R E q fun v y mp1 h1 H1 X1 R1 E1 r1 q1 => ?_
  split at q1
  · rename_i hc
    obtain ⟨a, xs, rfl, o1⟩ := isLst_rel R1 r1 hc
    refine ⟨.inl ⟨rfl, xs, .of o1⟩, ?_⟩
    refine res_bnd R1 E1 q1 fun vs ys mp2 h2 H2 X2 R2 E2 r2 q2 => ?_
    split at q2
    · rename_i z h' e
      unfold vIndex at e
      split at e
      · rename_i n x
        split at e
        · rename_i ws en
          obtain ⟨ds, e1, e2⟩ := Option.bind_eq_some_iff.mp e
          split at e2
          · rename_i hf
            obtain ⟨j, ej, ez⟩ := Option.map_eq_some_iff.mp e2
            cases ez
            have r1 := r1.mono X2
            cases r1 with
            | r hn =>
              cases r2 with
              | cons rv rn =>
                cases rn
                obtain ⟨xs2, o2, rk⟩ := R2.obj hn en
                rw [allD_eq e1] at rk
                cases rv with
                | d rv =>
                  obtain ⟨z, f1, f2, f3⟩ := firstAt_ok ej
                  exact ⟨_, _, x.py, pys ds, j, z, rfl, rfl, .lst (.of o2) rk.data.dp, rv.dp, shaped_lst hf.2, D.shaped hf.1, f1, f2, f3, q2 mp2 _ H2 R2 .refl (.d (.int _))⟩
          · cases e2
        · cases e
      · cases e
    · exact q2.elim
  · exact q1.elim
end
end Dq
namespace Dq
open PySem PySem.Spec PyProof.Rows L2
/-! ### list(zip(a, b)): the pairs stay -/
theorem zip_no_len : typeLookup (.type "zip") "__len__" = pure none := am_miss_of_fast (by decide +kernel)
theorem zip_no_hint : typeLookup (.type "zip") "__length_hint__" = pure none := am_miss_of_fast (by decide +kernel)
section
variable {prog : Program} {w : World} {A : Around} {E : Value → Shared → Prop} {s : Shared} {z TI TO i1 i2 : Addr} {fp1 fp2 : List Addr} {n1 n2 i : Nat} {P1 P2 : Nat → Value → Prop} {St1 St2 : Nat → Heap → Prop}
theorem zh_next {T : Addr} {f : Bool} {oT : Obj} {Q : Value → Shared → Prop} (S : ZipSep2 z TI TO i1 i2 fp1 fp2) (D1 : Draws prog w A i1 fp1 n1 P1 St1) (D2 : Draws prog w A i2 fp2 n2 P2 St2)
    (hz : IsZipHeld s.heap z TI TO T f) (hT : s.heap.get? T = some oT) (hTI : IsTupOf2 s.heap TI (.ref i1) (.ref i2)) (q1 : St1 i s.heap) (q2 : St2 i s.heap) (l1 : i < n1) (l2 : i < n2)
    (hQ : ∀ x y h' tk, P1 i x → P2 i y → IsZipHeld h' z TI TO T true → St1 (i + 1) h' → St2 (i + 1) h' → IsTupOf2 h' s.heap.objs.size x y → (∀ c o, c ≠ z → c ≠ i1 → c ≠ i2 → s.heap.get? c = some o → h'.get? c = some o) → Q (.ref s.heap.objs.size) { s with heap := h', toks := tk }) :
    wpAny (model prog w) A (Builtin.«zip.__next__» ⟨[.ref z], []⟩) (fun fin s' => ∃ v, fin = .done (.ret v) ∧ Q v s') E s := by
  obtain ⟨hp, ge, dr, tk0, os⟩ := s
  show wpAny _ _ (field (.ref z) 2 >>= _) _ _ _
  refine wpAny_bind (wpAny_field hz rfl (x := .bool false) rfl ?_)
  show wpAny _ _ (field (.ref z) 3 >>= _) _ _ _
  refine wpAny_bind (wpAny_field hz rfl (x := .ref TI) rfl ?_)
  refine wpAny_bind (wpAny_seqItems hTI rfl ?_)
  show wpAny _ _ (Builtin.SmallTypes.ownedTupleIsFree (.ref z) >>= _) _ _ _
  refine wpAny_bind (wpAny_tupleHeld_zip hz hT fun g0 hz0 hs0 => ?_)
  replace hs0 : Heap.SameBut z hp g0 := hs0
  simp only [Bool.false_eq_true, if_false]
  refine wpAny_bind ?_
  rw [← Array.forIn_toList]
  simp only [List.forIn_cons, List.forIn_nil]
  refine wpAny_bind (wpAny_bind (wpAny_holding ?_))
  show wpAny _ _ (Builtin.SmallTypes.nextOf (.ref i1) >>= _) _ _ ⟨g0, ge, dr, tk0, os⟩
  refine wpAny_bind (D1.item i _ _ _ l1 (D1.over q1 hs0 S.zf1) fun x g1 t1 px r1 hs1 => wpAny_pure ?_)
  replace hs1 : Heap.SameBut i1 g0 g1 := hs1
  refine wpAny_pure ?_
  refine wpAny_bind (wpAny_bind (wpAny_holding ?_))
  show wpAny _ _ (Builtin.SmallTypes.nextOf (.ref i2) >>= _) _ _ ⟨g1, ge, dr, t1, os⟩
  refine wpAny_bind (D2.item i _ _ _ l2 (D2.over (D2.over q2 hs0 S.zf2) hs1 S.sep1_2) fun y g2 t2 py r2 hs2 => wpAny_pure ?_)
  replace hs2 : Heap.SameBut i2 g1 g2 := hs2
  refine wpAny_pure (wpAny_pure ?_)
  show wpAny _ _ (newTuple [x, y] >>= _) _ _ _
  refine wpAny_bind (wpAny_newTuple ?_)
  have hsz : g2.objs.size = hp.objs.size := by rw [hs2.1, hs1.1, hs0.1]
  have hz2 : IsZipHeld g2 z TI TO T true := hs2.extBut _ _ S.zi2 (hs1.extBut _ _ S.zi1 hz0)
  have hk : ∀ c o, c ≠ z → c ≠ i1 → c ≠ i2 → hp.get? c = some o → g2.get? c = some o := fun c o c1 c2 c3 e => hs2.extBut _ _ c3 (hs1.extBut _ _ c2 (hs0.extBut _ _ c1 e))
  have r12 := D1.over r1 hs2 S.sep2_1
  refine wpAny_pure ⟨_, rfl, ?_⟩
  show Q (.ref g2.objs.size) ⟨g2.push { cls := .type "tuple", data := .seq #[x, y] }, ge, dr, t2, os⟩
  have hp2 : IsTupOf2 (g2.push { cls := .type "tuple", data := .seq #[x, y] }) g2.objs.size x y := Heap.get?_push_size _ rfl
  rw [hsz] at hp2 ⊢
  exact hQ x y _ t2 px py (Heap.get?_push_of_some _ hz2) (D1.frame _ _ _ r12 fun b _ o e => Heap.get?_push_of_some _ e) (D2.frame _ _ _ r2 fun b _ o e => Heap.get?_push_of_some _ e) hp2 fun c o c1 c2 c3 e => Heap.get?_push_of_some _ (hk c o c1 c2 c3 e)
theorem zh_stop {T : Addr} {f : Bool} {oT : Obj} {Q : Fin → Shared → Prop} (S : ZipSep2 z TI TO i1 i2 fp1 fp2) (D1 : Draws prog w A i1 fp1 n1 P1 St1) (D2 : Draws prog w A i2 fp2 n2 P2 St2)
    (hz : IsZipHeld s.heap z TI TO T f) (hT : s.heap.get? T = some oT) (hTI : IsTupOf2 s.heap TI (.ref i1) (.ref i2)) (q1 : St1 i s.heap) (q2 : St2 i s.heap) (l1 : i ≤ n1) (l2 : i ≤ n2) (he : i = n1 ∨ i = n2)
    (hE : ∀ h' tk e, (∀ c o, c ≠ z → c ≠ i1 → c ≠ i2 → s.heap.get? c = some o → h'.get? c = some o) → (∃ o, h'.get? e = some o ∧ o.cls = .type "StopIteration") → E (.ref e) { s with heap := h', toks := tk }) :
    wpAny (model prog w) A (Builtin.«zip.__next__» ⟨[.ref z], []⟩) Q E s := by
  obtain ⟨hp, ge, dr, tk0, os⟩ := s
  show wpAny _ _ (field (.ref z) 2 >>= _) _ _ _
  refine wpAny_bind (wpAny_field hz rfl (x := .bool false) rfl ?_)
  show wpAny _ _ (field (.ref z) 3 >>= _) _ _ _
  refine wpAny_bind (wpAny_field hz rfl (x := .ref TI) rfl ?_)
  refine wpAny_bind (wpAny_seqItems hTI rfl ?_)
  show wpAny _ _ (Builtin.SmallTypes.ownedTupleIsFree (.ref z) >>= _) _ _ _
  refine wpAny_bind (wpAny_tupleHeld_zip hz hT fun g0 hz0 hs0 => ?_)
  replace hs0 : Heap.SameBut z hp g0 := hs0
  simp only [Bool.false_eq_true, if_false]
  refine wpAny_bind ?_
  rw [← Array.forIn_toList]
  simp only [List.forIn_cons, List.forIn_nil]
  refine wpAny_bind (wpAny_bind (wpAny_holding ?_))
  show wpAny _ _ (Builtin.SmallTypes.nextOf (.ref i1) >>= _) _ _ ⟨g0, ge, dr, tk0, os⟩
  by_cases hl : i < n1
  · refine wpAny_bind (D1.item i _ _ _ hl (D1.over q1 hs0 S.zf1) fun x g1 t1 px r1 hs1 => wpAny_pure ?_)
    replace hs1 : Heap.SameBut i1 g0 g1 := hs1
    refine wpAny_pure ?_
    refine wpAny_bind (wpAny_bind (wpAny_holding ?_))
    show wpAny _ _ (Builtin.SmallTypes.nextOf (.ref i2) >>= _) _ _ ⟨g1, ge, dr, t1, os⟩
    have e2 : i = n2 := by omega
    refine wpAny_bind (D2.done ⟨g1, ge, dr, t1, os⟩ _ _ (by rw [← e2]; exact D2.over (D2.over q2 hs0 S.zf2) hs1 S.sep1_2) fun h' e hx ho => ?_)
    exact hE h' t1 e (fun c o c1 c2 c3 x => hx _ _ c3 (hs1.extBut _ _ c2 (hs0.extBut _ _ c1 x))) ho
  · have e1 : i = n1 := by omega
    refine wpAny_bind (D1.done ⟨g0, ge, dr, tk0, os⟩ _ _ (by rw [← e1]; exact D1.over q1 hs0 S.zf1) fun h' e hx ho => ?_)
    exact hE h' tk0 e (fun c o c1 c2 c3 x => hx _ _ c2 (hs0.extBut _ _ c1 x)) ho
/-- a zip's state before its i-th pair, while a list at L is filled -/
structure ZSt (L z TI TO i1 i2 : Addr) (St1 St2 : Nat → Heap → Prop) (i : Nat) (h : Heap) : Prop where
  ti : IsTupOf2 h TI (.ref i1) (.ref i2)
  s1 : St1 i h
  s2 : St2 i h
  zz : (IsZip h z TI TO .none ∧ ∃ a b, IsTupOf2 h TO a b) ∨ ∃ T f oT, IsZipHeld h z TI TO T f ∧ h.get? T = some oT ∧ T ≠ z ∧ T ≠ i1 ∧ T ≠ i2 ∧ T ≠ L
theorem zst_item {L : Addr} {Q : Option Value → Shared → Prop} (S : ZipSep2 z TI TO i1 i2 fp1 fp2) (D1 : Draws prog w A.in1 i1 fp1 n1 P1 St1) (D2 : Draws prog w A.in1 i2 fp2 n2 P2 St2) (st : ZSt L z TI TO i1 i2 St1 St2 i s.heap) (hL : L < s.heap.objs.size) (l1 : i < n1) (l2 : i < n2)
    (hQ : ∀ x y h' tk, P1 i x → P2 i y → ZSt L z TI TO i1 i2 St1 St2 (i + 1) h' → IsTupOf2 h' s.heap.objs.size x y → (∀ c o, c ≠ z → c ≠ TO → c ≠ i1 → c ≠ i2 → s.heap.get? c = some o → h'.get? c = some o) → Q (some (.ref s.heap.objs.size)) { s with heap := h', toks := tk }) :
    wpAny (model prog w) A (pyNext (.ref z)) Q E s := by
  have lt : ∀ {c o}, s.heap.get? c = some o → s.heap.objs.size ≠ c := fun e => Nat.ne_of_gt (Heap.lt_size e)
  have m1 : s.heap.objs.size ≠ i1 := by obtain ⟨_, e⟩ := D1.live _ _ st.s1; exact lt e
  have m2 : s.heap.objs.size ≠ i2 := by obtain ⟨_, e⟩ := D2.live _ _ st.s2; exact lt e
  rcases st.zz with ⟨hz, a, b, hTO⟩ | ⟨T, f, oT, hz, hT, t1, t2, t3, t4⟩
  · refine wpAny_pyNext_zipD2_item S D1 D2 hz st.ti hTO st.s1 st.s2 l1 l2 fun x y h' tk px py a1 a2 r1 r2 a5 a6 hk => ?_
    exact hQ x y h' tk px py ⟨hk _ _ S.TIz S.TITO S.TIi1 S.TIi2 st.ti, r1, r2, .inr ⟨s.heap.objs.size, false, _, a1, a5, lt hz, m1, m2, Nat.ne_of_gt hL⟩⟩ a5 hk
  · have hTy : s.TypeIs (.ref z) "zip" := ⟨_, hz, rfl⟩
    unfold pyNext
    refine wpAny_bind (wpAny_attempt (wpAny_callSpecial?_slot (name := Str.ofString "__next__") hTy F.slot_zip_next (wpAny_call_entry F.slot_zip_next hTy F.entry_zip_next (zh_next S D1 D2 hz hT st.ti st.s1 st.s2 l1 l2 fun x y h' tk px py a1 r1 r2 a5 hk => wpAny_pure ?_) (F.args_zip_next_1 _))))
    exact hQ x y h' tk px py ⟨hk _ _ S.TIz S.TIi1 S.TIi2 st.ti, r1, r2, .inr ⟨T, true, oT, a1, hk _ _ t1 t2 t3 hT, t1, t2, t3, t4⟩⟩ a5 fun c o c1 c2 c3 c4 e => hk c o c1 c3 c4 e
theorem zst_done {L : Addr} {Q : Option Value → Shared → Prop} (S : ZipSep2 z TI TO i1 i2 fp1 fp2) (D1 : Draws prog w A.in1 i1 fp1 n1 P1 St1) (D2 : Draws prog w A.in1 i2 fp2 n2 P2 St2) (st : ZSt L z TI TO i1 i2 St1 St2 i s.heap) (l1 : i ≤ n1) (l2 : i ≤ n2) (he : i = n1 ∨ i = n2)
    (hQ : ∀ h' tk, (∀ c o, c ≠ z → c ≠ TO → c ≠ i1 → c ≠ i2 → s.heap.get? c = some o → h'.get? c = some o) → Q none { s with heap := h', toks := tk }) :
    wpAny (model prog w) A (pyNext (.ref z)) Q E s := by
  rcases st.zz with ⟨hz, a, b, hTO⟩ | ⟨T, f, oT, hz, hT, t1, t2, t3, t4⟩
  · exact wpAny_pyNext_zipD2_end S D1 D2 hz st.ti hTO st.s1 st.s2 l1 l2 he hQ
  · have hTy : s.TypeIs (.ref z) "zip" := ⟨_, hz, rfl⟩
    unfold pyNext
    refine wpAny_bind (wpAny_attempt (wpAny_callSpecial?_slot (name := Str.ofString "__next__") hTy F.slot_zip_next (wpAny_call_entry F.slot_zip_next hTy F.entry_zip_next (zh_stop S D1 D2 hz hT st.ti st.s1 st.s2 l1 l2 he fun h' tk e hk ho => ?_) (F.args_zip_next_1 _))))
    obtain ⟨o, ho, hc⟩ := ho
    refine wpAny_bind (wpAny_isInstance (T := "StopIteration") (b := true) ⟨o, ho, hc⟩ isSubtype_stop ?_)
    exact wpAny_pure (hQ _ _ fun c o c1 c2 c3 c4 e => hk c o c1 c3 c4 e)
theorem ZSt.frame {L : Addr} {h h' : Heap} (S : ZipSep2 z TI TO i1 i2 fp1 fp2) (D1 : Draws prog w A i1 fp1 n1 P1 St1) (D2 : Draws prog w A i2 fp2 n2 P2 St2) (st : ZSt L z TI TO i1 i2 St1 St2 i h) (hk : ∀ b o, b ≠ L → h.get? b = some o → h'.get? b = some o)
    (Lz : L ≠ z) (LI : L ≠ TI) (LO : L ≠ TO) (L1 : L ∉ fp1) (L2 : L ∉ fp2) : ZSt L z TI TO i1 i2 St1 St2 i h' := by
  refine ⟨hk _ _ (Ne.symm LI) st.ti, D1.frame _ _ _ st.s1 fun b hb o e => hk b o (fun q => L1 (q ▸ hb)) e, D2.frame _ _ _ st.s2 fun b hb o e => hk b o (fun q => L2 (q ▸ hb)) e, ?_⟩
  rcases st.zz with ⟨hz, a, b, hTO⟩ | ⟨T, f, oT, hz, hT, t1, t2, t3, t4⟩
  · exact .inl ⟨hk _ _ (Ne.symm Lz) hz, a, b, hk _ _ (Ne.symm LO) hTO⟩
  · exact .inr ⟨T, f, oT, hk _ _ (Ne.symm Lz) hz, hk _ _ t4 hT, t1, t2, t3, t4⟩
end
end Dq
namespace Dq
open PySem PySem.Spec PyProof.Rows L2
section
variable {X : Cx} {pins : List (Addr × Obj)} {σ : L2.St} {A : Around} {R : Result → Shared → Prop} {L z TI TO i1 i2 : Addr} {fp1 fp2 : List Addr} {its1 its2 : List Value} {xs ys : List V} {St1 St2 : Nat → Heap → Prop}
abbrev Pit (its : List Value) : Nat → Value → Prop := fun i v => its.toArray[i]? = some v
theorem zl_loop (S : ZipSep2 z TI TO i1 i2 fp1 fp2) (D1 : Draws X.prog X.w A.in1.in1 i1 fp1 its1.toArray.size (Pit its1) St1) (D2 : Draws X.prog X.w A.in1.in1 i2 fp2 its2.toArray.size (Pit its2) St2)
    (rv1 : Vals xs its1) (rv2 : Vals ys its2) (Lz : L ≠ z) (LI : L ≠ TI) (LO : L ≠ TO) (L1 : L ∉ fp1) (L2 : L ∉ fp2) {lo : Nat} (hlo : ∀ b ∈ [z, TI, TO, i1, i2], b < lo) (hch : L ∉ [z, TI, TO, i1, i2]) (G : Nat → Hp → List V → Prop)
    (step : ∀ i H acc x y T, G i H acc → xs[i]? = some x → ys[i]? = some y → H T = none → H L = some (.lst acc) → G (i + 1) (upd (upd H T (.tup [x, y])) L (.lst (acc ++ [.ref T]))) (acc ++ [.ref T]))
    (hn : min its1.toArray.size its2.toArray.size ≤ sizeLine) (res : Value) (hR : ∀ H s acc, Inv X pins σ H s → H L = some (.lst acc) → G (min its1.toArray.size its2.toArray.size) H acc → R (.ok (.ret res)) s) :
    ∀ (k i : Nat) (H : Hp) (s : Shared) (acc : List V), min its1.toArray.size its2.toArray.size - i = k → i ≤ min its1.toArray.size its2.toArray.size → Inv X pins σ H s → (∀ b ∈ [z, TI, TO, i1, i2], FpOk X pins H b) → lo ≤ s.heap.objs.size →
      ZSt L z TI TO i1 i2 St1 St2 i s.heap → H L = some (.lst acc) → acc.length = i → G i H acc → codeAny (model X.prog X.w) A (.builtin "list.extend.loop" ⟨[.ref L, .ref z, res], []⟩) R s := by
  have four : ∀ {c : Addr}, c ∉ [z, TI, TO, i1, i2] → c ≠ z ∧ c ≠ TO ∧ c ≠ i1 ∧ c ≠ i2 := fun h => ⟨fun q => h (by simp [q]), fun q => h (by simp [q]), fun q => h (by simp [q]), fun q => h (by simp [q])⟩
  intro k
  induction k with
  | zero =>
    intro i H s acc hk hi I hf hs st hL hl hG
    have e : i = min its1.toArray.size its2.toArray.size := by omega
    refine codeAny_builtin PySem.F.entry_extend_loop ?_
    rw [Around.under_plainId PySem.F.plain_extend_loop _]
    show wpAny _ A.in1 (pyNext (.ref z) >>= _) _ _ _
    refine wpAny_bind (zst_done S D1 D2 st (by omega) (by omega) (by omega) fun h' tk kk => ?_)
    refine wpAny_pure (hR H _ acc (I.turnedL (t' := tk) (ch := [z, TI, TO, i1, i2]) (fun c o hb q => ?_) hf) hL (e ▸ hG))
    obtain ⟨c1, c2, c3, c4⟩ := four hb
    exact kk c o c1 c2 c3 c4 q
  | succ k ih =>
    intro i H s acc hk hi I hf hs st hL hl hG
    have g1 : i < its1.length := by have : its1.toArray.size = its1.length := List.size_toArray ..; omega
    have g2 : i < its2.length := by have : its2.toArray.size = its2.length := List.size_toArray ..; omega
    have m1 := rv1.length
    have m2 := rv2.length
    obtain ⟨x, hx⟩ : ∃ x, xs[i]? = some x := ⟨xs[i], List.getElem?_eq_getElem (by omega)⟩
    obtain ⟨y, hy⟩ : ∃ y, ys[i]? = some y := ⟨ys[i], List.getElem?_eq_getElem (by omega)⟩
    obtain ⟨ux, ex, rx⟩ := rv1.get hx
    obtain ⟨uy, ey, ry⟩ := rv2.get hy
    refine codeAny_builtin PySem.F.entry_extend_loop ?_
    rw [Around.under_plainId PySem.F.plain_extend_loop _]
    show wpAny _ A.in1 (pyNext (.ref z) >>= _) _ _ _
    obtain ⟨itl, nl, rl, hol, hzl⟩ := I.lst hL
    have hLs : L < s.heap.objs.size := Heap.lt_size hol
    refine wpAny_bind (zst_item S D1 D2 st hLs (by rw [List.size_toArray]; exact g1) (by rw [List.size_toArray]; exact g2) fun u v h' tk pu pv st' hT kk => ?_)
    have eu : u = ux := by
      have q : its1.toArray[i]? = some u := pu
      rw [List.getElem?_toArray, ex] at q
      exact (Option.some.inj q).symm
    have ev : v = uy := by
      have q : its2.toArray[i]? = some v := pv
      rw [List.getElem?_toArray, ey] at q
      exact (Option.some.inj q).symm
    subst eu ev
    have hHT : H s.heap.objs.size = none := I.hok.fresh (Nat.le_refl _)
    have new : ObjOk X.prog X.w (upd H s.heap.objs.size (.tup [x, y])) h' s.heap.objs.size (.tup [x, y]) :=
      ⟨by show 2 ≤ sizeLine; decide, [u, v], .cons rx (.cons ry .nil), ⟨_, hT, rfl, _, rfl⟩⟩
    have J : Inv X pins σ (upd H s.heap.objs.size (.tup [x, y])) { s with heap := h', toks := tk } :=
      I.turnedNew (ch := [z, TI, TO, i1, i2]) (fun c o hb q => by obtain ⟨c1, c2, c3, c4⟩ := four hb; exact kk c o c1 c2 c3 c4 q) hf (Nat.le_refl _) new
    have hL2 : (upd H s.heap.objs.size (.tup [x, y])) L = some (.lst acc) := by rw [upd_ne (Nat.ne_of_lt hLs)]; exact hL
    obtain ⟨its, n, r, ho, hz⟩ := J.lst hL2
    have hlen : its.length = i := by rw [← r.length]; exact hl
    have J2 := J.lset (t' := tk) (f := (·.push (.ref s.heap.objs.size))) (its' := its ++ [.ref s.heap.objs.size]) (ys := acc ++ [.ref s.heap.objs.size]) hL2 ho (by simp) (r.append (.cons (show RelV (V.ref s.heap.objs.size) (Value.ref s.heap.objs.size) from rfl) .nil)) (by rw [List.length_append, hl, List.length_singleton]; omega)
    have upk : ∀ b o, b ≠ L → h'.get? b = some o → (h'.update L (Obj.mapSeq (·.push (.ref s.heap.objs.size)))).get? b = some o := fun b o hb e => (Heap.get?_update_other _ _ (Ne.symm hb)).trans e
    show wpAny _ A.in1 (updateSeq L (·.push (Value.ref s.heap.objs.size)) >>= _) _ _ _
    refine wpAny_bind (wpAny_updateSeq ho rfl (wpAny_pure ⟨plainId_quiet PySem.F.plain_extend_loop _, ih (i + 1) _ _ (acc ++ [.ref s.heap.objs.size]) (by omega) (by omega) J2 (fun b hb => ?_) ?_ (st'.frame S D1 D2 upk Lz LI LO L1 L2) upd_same (by rw [List.length_append, hl]; rfl) (step i H acc x y _ hG hx hy hHT hL)⟩)
      (by rw [List.size_toArray, hlen]; omega) (by rw [Array.size_push, List.size_toArray, hlen]; omega))
    · obtain ⟨f0, f1, f2, f3, f4, f5⟩ := hf b hb
      refine ⟨?_, f1, f2, f3, f4, f5⟩
      have hbL : b ≠ L := fun q => hch (by rw [← q]; exact hb)
      rw [upd_ne hbL, upd_ne (Nat.ne_of_lt (Nat.lt_of_lt_of_le (hlo b hb) hs))]
      exact f0
    · have e : (h'.update L (Obj.mapSeq (·.push (.ref s.heap.objs.size)))).get? s.heap.objs.size = _ := upk _ _ (Nat.ne_of_gt hLs) hT
      exact Nat.le_trans hs (Nat.le_of_lt (Heap.lt_size e))
theorem zl_call {s : Shared} {H : Hp} {E : Value → Shared → Prop} {Q : Value → Shared → Prop} (S : ZipSep2 z TI TO i1 i2 fp1 fp2) (D1 : Draws X.prog X.w A.in1.in1.in1 i1 fp1 its1.toArray.size (Pit its1) St1) (D2 : Draws X.prog X.w A.in1.in1.in1 i2 fp2 its2.toArray.size (Pit its2) St2)
    (rv1 : Vals xs its1) (rv2 : Vals ys its2) (hn : min its1.toArray.size its2.toArray.size ≤ sizeLine) (I : Inv X pins σ H s) (hf : ∀ b ∈ [z, TI, TO, i1, i2], FpOk X pins H b) (hlo : ∀ b ∈ [z, TI, TO, i1, i2], b < s.heap.objs.size) (hf1 : ∀ b ∈ fp1, b < s.heap.objs.size) (hf2 : ∀ b ∈ fp2, b < s.heap.objs.size)
    (hz : IsZip s.heap z TI TO .none) (hTI : IsTupOf2 s.heap TI (.ref i1) (.ref i2)) {a b : Value} (hTO : IsTupOf2 s.heap TO a b) (q1 : St1 0 s.heap) (q2 : St2 0 s.heap)
    (h : ∀ L, H L = none → ∃ G : Nat → Hp → List V → Prop, G 0 (upd H L (.lst [])) [] ∧ (∀ i H acc x y T, G i H acc → xs[i]? = some x → ys[i]? = some y → H T = none → H L = some (.lst acc) → G (i + 1) (upd (upd H T (.tup [x, y])) L (.lst (acc ++ [.ref T]))) (acc ++ [.ref T])) ∧
      ∀ H' s' acc, Inv X pins σ H' s' → H' L = some (.lst acc) → G (min its1.toArray.size its2.toArray.size) H' acc → Q (.ref L) s') :
    wpAny (model X.prog X.w) A (call (.type "list") [.ref z]) Q E s := by
  obtain ⟨G, g0, step, fin⟩ := h s.heap.objs.size (I.hok.fresh (Nat.le_refl _))
  refine callType_codes (Q₁ := fun obj s₁ => obj = .ref s.heap.objs.size ∧ s₁ = { s with heap := s.heap.push { cls := .type "list", data := .seq #[] } }) PySem.F.called_list (PySem.F.typeCall_list_1 _) PySem.F.entry_list_init (code_list_new _ ⟨rfl, rfl⟩) fun obj s₁ h₁ => ?_
  obtain ⟨rfl, rfl⟩ := h₁
  have J : Inv X pins σ (upd H s.heap.objs.size (.lst [])) { s with heap := s.heap.push { cls := .type "list", data := .seq #[] } } := I.lnew (its := []) (t' := s.toks) .nil (Nat.zero_le _)
  have oldp : ∀ b o, s.heap.get? b = some o → (s.heap.push { cls := .type "list", data := .seq #[] }).get? b = some o := fun b o e => Heap.get?_push_of_some _ e
  generalize hSz : s.heap.objs.size = Lz at *
  have hLL : (s.heap.push { cls := .type "list", data := .seq #[] }).get? Lz = some { cls := .type "list", data := .seq #[] } := by rw [← hSz]; exact Heap.get?_push_size _ rfl
  refine ⟨⟨_, hLL, rfl⟩, PySem.F.args_list_init_2 _ _, ?_⟩
  show wpAny _ _ (do let old ← Builtin.List.listItems (.ref Lz); Builtin.List.listUpdate (.ref Lz) (fun _ => #[]); letGo old.toList.reverse; Builtin.List.listExtendWith (.ref Lz) (.ref z) .none) _ _ _
  refine wpAny_bind ?_
  unfold Builtin.List.listItems
  refine wpAny_bind (wpAny_seqItems hLL rfl (wpAny_pure ?_))
  show wpAny _ _ (updateSeq Lz (fun _ => #[]) >>= fun _ => letGo (#[] : Array Value).toList.reverse >>= fun _ => Builtin.List.listExtendWith (.ref Lz) (.ref z) .none) _ _ _
  refine wpAny_bind (wpAny_updateSeq hLL rfl ?_)
  have J1 := J.lset (t' := s.toks) (l := Lz) (f := fun _ => #[]) (its := []) (its' := []) (ys := []) upd_same hLL rfl .nil (Nat.zero_le _)
  have hL1 := Heap.get?_update_self (Obj.mapSeq (fun _ => (#[] : Array Value))) hLL rfl
  have old1 : ∀ b o, b ≠ Lz → s.heap.get? b = some o → ((s.heap.push { cls := .type "list", data := .seq #[] }).update Lz (Obj.mapSeq (fun _ => (#[] : Array Value)))).get? b = some o :=
    fun b o hb e => (Heap.get?_update_other _ _ (Ne.symm hb)).trans (oldp b o e)
  generalize (s.heap.push { cls := .type "list", data := .seq #[] }).update Lz (Obj.mapSeq (fun _ => (#[] : Array Value))) = h1 at J1 hL1 old1 ⊢
  refine wpAny_bind (wpAny_letGo ?_)
  have zL : z ≠ Lz := Nat.ne_of_lt (hlo z (by simp))
  have hTy : Shared.TypeIs { s with heap := h1 } (.ref z) "zip" := ⟨_, old1 _ _ zL hz, rfl⟩
  unfold Builtin.List.listExtendWith
  refine wpAny_bind (wpAny_typeOf (T := "zip") hTy ?_)
  have e1 : Builtin.List.listSameRef (.ref Lz) (.ref z) = false := by simp [Builtin.List.listSameRef, Ne.symm zL]
  have e2 : (Value.type "zip" == Value.type "list") = false := by decide
  have e3 : (Value.type "zip" == Value.type "tuple") = false := by decide
  simp only [e1, e2, e3, Bool.or_false, Bool.false_eq_true, if_false]
  refine wpAny_bind (wpAny_pyIter_zip (old1 _ _ zL hz) ?_)
  refine wpAny_bind (wpAny_holding ?_)
  unfold Builtin.List.listLengthHint
  refine wpAny_bind (wpAny_specialOf hTy zip_no_len ?_)
  show wpAny _ _ (specialOf (Value.ref z) (Str.ofString "__length_hint__") >>= _) _ _ _
  refine wpAny_bind (wpAny_specialOf hTy zip_no_hint ?_)
  refine wpAny_pure ?_
  show wpAny _ _ (rule "list.extend.makes-room" >>= fun _ => Builtin.List.listTouch (.ref Lz) >>= fun _ => again (.builtin "list.extend.loop" ⟨[.ref Lz, .ref z, .none], []⟩)) _ _ _
  refine wpAny_bind (wpAny_rule ?_)
  refine wpAny_bind ?_
  show wpAny _ _ (updateSeq Lz (·.push .none) >>= fun _ => updateSeq Lz (·.pop)) _ _ _
  refine wpAny_bind (wpAny_updateSeq hL1 rfl ?_)
  have hL2 := Heap.get?_update_self (Obj.mapSeq (·.push Value.none)) hL1 rfl
  refine wpAny_updateSeq (hz := by seq_fits) hL2 rfl ?_
  have hL3 := Heap.get?_update_self (Obj.mapSeq (·.pop)) hL2 rfl
  have old3 : ∀ b o, b ≠ Lz → h1.get? b = some o → ((h1.update Lz (Obj.mapSeq (·.push Value.none))).update Lz (Obj.mapSeq (·.pop))).get? b = some o :=
    fun b o hb e => (Heap.get?_update_other _ _ (Ne.symm hb)).trans ((Heap.get?_update_other _ _ (Ne.symm hb)).trans e)
  generalize (h1.update Lz (Obj.mapSeq (·.push Value.none))).update Lz (Obj.mapSeq (·.pop)) = h3 at hL3 old3 ⊢
  have J3 : Inv X pins σ (upd (upd (upd H Lz (.lst [])) Lz (.lst [])) Lz (.lst [])) { s with heap := h3 } := by
    refine J1.write (x := Lz) (e := Lz) (t' := s.toks) (by rw [upd_same]; trivial) (.inl rfl) (fun b u hb q => old3 b u hb q) ⟨_, hL3⟩ ?_
    exact ⟨Nat.zero_le _, [], _, .nil, hL3⟩
  have eH : upd (upd (upd H Lz (.lst [])) Lz (.lst [])) Lz (.lst []) = upd H Lz (.lst []) := by
    funext b
    by_cases e : b = Lz
    · subst e; rw [upd_same, upd_same]
    · rw [upd_ne e, upd_ne e]
  rw [eH] at J3
  have nin : Lz ∉ [z, TI, TO, i1, i2] := fun hm => Nat.lt_irrefl _ (hlo _ hm)
  have old4 : ∀ b o, b ≠ Lz → s.heap.get? b = some o → h3.get? b = some o := fun b o hb e => old3 b o hb (old1 b o hb e)
  refine wpAny_pure ⟨plainId_quiet PySem.F.plain_extend_loop _, zl_loop (X := X) (pins := pins) (σ := σ) (A := A.in1) (L := Lz) S D1 D2 rv1 rv2 (Ne.symm zL) (fun q => nin (by simp [q])) (fun q => nin (by simp [q])) (fun hm => Nat.lt_irrefl _ (hf1 _ hm)) (fun hm => Nat.lt_irrefl _ (hf2 _ hm)) hlo nin G step hn .none
    (fun H' s' acc I' hL' g => ⟨rfl, fin H' s' acc I' hL' g⟩) _ 0 _ _ [] rfl (Nat.zero_le _) J3 (fun b hb => ?_) (Nat.le_of_lt (Heap.lt_size hL3)) ⟨?_, ?_, ?_, .inl ⟨?_, a, b, ?_⟩⟩ upd_same rfl g0⟩
  · obtain ⟨f0, f1, f2, f3, f4, f5⟩ := hf b hb
    exact ⟨by rw [upd_ne (Nat.ne_of_lt (hlo b hb))]; exact f0, f1, f2, f3, f4, f5⟩
  · exact old4 _ _ (fun q => nin (by simp [← q])) hTI
  · exact D1.frame _ _ _ q1 fun b hb o e => old4 b o (Nat.ne_of_lt (hf1 b hb)) e
  · exact D2.frame _ _ _ q2 fun b hb o e => old4 b o (Nat.ne_of_lt (hf2 b hb)) e
  · exact old4 _ _ zL hz
  · exact old4 _ _ (fun q => nin (by simp [← q])) hTO
end
end Dq
namespace Dq
open PySem PySem.Spec PyProof.Rows L2
/-- what a zip draws from: a tuple or a list, as it stands -/
theorem src_draws {h : Heap} {a : Addr} {its : List Value} (q : h.IsTuple a its.toArray ∨ h.IsList a its.toArray) : ∃ (ob : Obj) (Hb : Heap → Prop), Begins (.ref a) ob Hb ∧ Hb h ∧ (∃ o, h.get? a = some o) ∧
    ∀ (P : Program) (w : World) (A : Around), A.handled = none → ∀ it, a ≠ it → ∃ St : Nat → Heap → Prop, Draws P w A it [it, a] its.toArray.size (Pit its) St ∧ ∀ h', h'.get? it = some ob → Hb h' → St 0 h' := by
  rcases q with q | q
  · exact ⟨_, _, begins_tuple a its.toArray, q, let ⟨o, e, _⟩ := q; ⟨o, e⟩, fun P w A hh it hne => ⟨_, Draws.tuple hh it a hne its.toArray, fun h' e b => ⟨⟨_, e, rfl, rfl⟩, b⟩⟩⟩
  · exact ⟨_, _, begins_list a its.toArray, q, let ⟨o, e, _⟩ := q; ⟨o, e⟩, fun P w A hh it hne => ⟨_, Draws.list hh it a hne its.toArray, fun h' e b => ⟨⟨_, e, rfl, rfl⟩, b⟩⟩⟩
theorem inv_src {X : Cx} {pins : List (Addr × Obj)} {σ : L2.St} {H : Hp} {s : Shared} {a : Addr} {xs : List V} (I : Inv X pins σ H s) (q : SqL X.K H a xs ∨ SqT X.K H a xs) : ∃ its : List Value, Vals xs its ∧ (s.heap.IsTuple a its.toArray ∨ s.heap.IsList a its.toArray) ∧ xs.length ≤ sizeLine := by
  rcases q with q | q
  · obtain ⟨its, r, p, hz⟩ := I.list q
    exact ⟨its, r, .inr p.isList, hz⟩
  · obtain ⟨its, r, p, hz⟩ := I.tuple q
    exact ⟨its, r, .inl p, hz⟩
def tListZip (K : PySem.W.Frag) (ta : TA) : TE := fun σ H Q => ta σ H fun vs H1 => ∃ a b xs ys, vs = [.ref a, .ref b] ∧ (SqL K H1 a xs ∨ SqT K H1 a xs) ∧ (SqL K H1 b ys ∨ SqT K H1 b ys) ∧ ∀ L, H1 L = none → ∃ G : Nat → Hp → List V → Prop, G 0 (upd H1 L (.lst [])) [] ∧
  (∀ i H acc x y T, G i H acc → xs[i]? = some x → ys[i]? = some y → H T = none → H L = some (.lst acc) → G (i + 1) (upd (upd H T (.tup [x, y])) L (.lst (acc ++ [.ref T]))) (acc ++ [.ref T])) ∧
  ∀ H' acc, H' L = some (.lst acc) → G (min xs.length ys.length) H' acc → Q (.ref L) H'
theorem pe_listZip {X : Cx} {e e2 : Expr} {ta : TA} {p p2 q pos : Pos} (hg : Gl X "list") (hm : X.mg "list" = none) (hg2 : Gl X "zip") (hm2 : X.mg "zip" = none) (hc : X.calm = true) (ha : PA X [e, e2] ta)
    (hs : starEach [e, e2] X.env = (false, eval e X.env) :: starEach [e2] X.env := by rfl) (hpl : (backTo q (starEach [e2] X.env)).any (·.1) = false := by rfl) :
    PE X (.Call (.Name "list" p) [.Call (.Name "zip" p2) [e, e2] [] q] [] pos) (tListZip X.K ta) := by
  refine ⟨fun pins s σ H Q I h => ?_⟩
  refine Call_ (ld_blt I hg hm PyProof.Rows.boot_list ?_)
  refine PyProof.Rows.callWith_type1 (PyProof.Rows.args_cons ?_ rfl) rfl rfl
  refine Call_ (ld_blt I hg2 hm2 PyProof.Rows.boot_zip (PyProof.Rows.callWith_type1 (thn (ha.run q pins s σ H _ I h) fun us s1 ⟨vs, H1, I1, r1, q1⟩ => ?_) hs hpl))
  obtain ⟨a, b, xs, ys, ex, s1q, s2q, q1⟩ := q1
  subst ex
  cases r1 with
  | cons r rr =>
    cases rr with
    | cons r' rr =>
      cases rr
      cases r
      cases r'
      obtain ⟨its1, rv1, p1, hz1⟩ := inv_src I1 s1q
      obtain ⟨its2, rv2, p2', hz2⟩ := inv_src I1 s2q
      obtain ⟨ob1, Hb1, B1, hb1, ⟨oa, ea⟩, mk1⟩ := src_draws p1
      obtain ⟨ob2, Hb2, B2, hb2, ⟨oc, ec⟩, mk2⟩ := src_draws p2'
      have la : a < s1.heap.objs.size := Heap.lt_size ea
      have lb : b < s1.heap.objs.size := Heap.lt_size ec
      refine zip_begins2 B1 B2 hb1 hb2 fun h' hz hTI hTO e1 e2 hsz hk => ?_
      refine PyProof.Rows.args_nil ?_
      have J : Inv X pins σ H1 { s1 with heap := h' } := I1.kept (t' := s1.toks) hk
      have hh : X.A.in1.in1.in1.handled = none := I.ok.hd hc
      obtain ⟨St1, D1, b1⟩ := mk1 X.prog X.w X.A.in1.in1.in1 hh s1.heap.objs.size (Nat.ne_of_lt la)
      obtain ⟨St2, D2, b2⟩ := mk2 X.prog X.w X.A.in1.in1.in1 hh (s1.heap.objs.size + 1) (Nat.ne_of_lt (Nat.lt_succ_of_lt lb))
      have S := zip_sep2 (N := s1.heap.objs.size) (fp1 := [a]) (fp2 := [b]) (fun c hc => by rw [List.mem_singleton.mp hc]; exact la) (fun c hc => by rw [List.mem_singleton.mp hc]; exact lb)
      have five : ∀ c, c ∈ [s1.heap.objs.size + 4, s1.heap.objs.size + 2, s1.heap.objs.size + 3, s1.heap.objs.size, s1.heap.objs.size + 1] → s1.heap.objs.size ≤ c ∧ c < h'.objs.size := fun c hcm => by
        have e' : c = s1.heap.objs.size + 4 ∨ c = s1.heap.objs.size + 2 ∨ c = s1.heap.objs.size + 3 ∨ c = s1.heap.objs.size ∨ c = s1.heap.objs.size + 1 := by simpa using hcm
        rw [hsz]
        rcases e' with z | z | z | z | z <;> rw [z]
        · exact ⟨Nat.le_add_right _ _, Nat.lt_succ_self _⟩
        · exact ⟨Nat.le_add_right _ _, by show s1.heap.objs.size + 2 < s1.heap.objs.size + 5; omega⟩
        · exact ⟨Nat.le_add_right _ _, by show s1.heap.objs.size + 3 < s1.heap.objs.size + 5; omega⟩
        · exact ⟨Nat.le_refl _, by show s1.heap.objs.size < s1.heap.objs.size + 5; omega⟩
        · exact ⟨Nat.le_add_right _ _, by show s1.heap.objs.size + 1 < s1.heap.objs.size + 5; omega⟩
      have l1 : its1.toArray.size = xs.length := by rw [List.size_toArray, rv1.length]
      have l2 : its2.toArray.size = ys.length := by rw [List.size_toArray, rv2.length]
      refine zl_call (X := X) (pins := pins) (σ := σ) (A := X.A) S D1 D2 rv1 rv2 (by rw [l1]; exact Nat.le_trans (Nat.min_le_left _ _) hz1) J (fun c hcm => I1.fpOk (five c hcm).1 (I1.hok.fresh (five c hcm).1)) (fun c hcm => (five c hcm).2)
        (fun c hcm => ?_) (fun c hcm => ?_) hz hTI hTO (b1 h' e1 (B1.keeps _ _ hb1 hk)) (b2 h' e2 (B2.keeps _ _ hb2 hk)) fun L hL => ?_
      · rcases List.mem_cons.mp hcm with z | z
        · rw [z]; exact (five _ (by simp)).2
        · rw [List.mem_singleton.mp z]; exact Heap.lt_size (hk _ _ ea)
      · rcases List.mem_cons.mp hcm with z | z
        · rw [z]; exact (five _ (by simp)).2
        · rw [List.mem_singleton.mp z]; exact Heap.lt_size (hk _ _ ec)
      · obtain ⟨G, g0, st, fin⟩ := q1 L hL
        refine ⟨G, g0, st, fun H' s' acc I' hL' g => ?_⟩
        rw [l1, l2] at g
        exact ⟨V.ref L, H', I', rfl, fin H' acc hL' g⟩
section
variable {G : Gm} {S : Sx} {pos : Pos}
def kListZip (vs : List Val) (h : Hh) : Option (Val × Hh) := match vs with
  | [a, b] => (seqOf a h).bind fun xs => (seqOf b h).map fun ys => (.r h.length, h ++ [.lst (zipV xs ys)])
  | _ => none
def eListZip (m : Av G) : Ev G := fun T => bnd (m T) fun vs _ h => match kListZip vs h with
  | some (v, h') => .ok v h'
  | none => .bad
theorem d_listZip {e e2 : Expr} {m : Av G} {p p2 q : Pos} (ha : DA G S [e, e2] m) (hg : GlS S "list" := by rfl) (hm : ("list" : Str) ∈ G.blt := by decide +kernel) (hg2 : GlS S "zip" := by rfl) (hm2 : ("zip" : Str) ∈ G.blt := by decide +kernel)
    (hs : ∀ env, starEach [e, e2] env = (false, eval e env) :: starEach [e2] env := by intro _; rfl) (hpl : ∀ env, (backTo q (starEach [e2] env)).any (·.1) = false := by intro _; rfl) :
    DE G S (.Call (.Name "list" p) [.Call (.Name "zip" p2) [e, e2] [] q] [] pos) (eListZip m) := fun k T X W C => by
  refine (pe_listZip (C.gl hg) (C.g.bl _ hm) (C.gl hg2) (C.g.bl _ hm2) C.calm (ha k T X W C) (hs _) (hpl _)).wk fun σ H Q ⟨mp, ρ, h, R, E, q⟩ => ?_
  refine res_bnd R E q fun vs ys mp1 h1 H1 X1 R1 E1 r1 q1 => ?_
  split at q1
  · rename_i v h' e
    unfold kListZip at e
    split at e
    · rename_i a b
      obtain ⟨us, ea, e⟩ := Option.bind_eq_some_iff.mp e
      obtain ⟨ws, eb, e⟩ := Option.map_eq_some_iff.mp e
      cases e
      cases r1 with
      | cons ra rr =>
        cases rr with
        | cons rb rr =>
          cases rr
          obtain ⟨pa, xs, rfl, sa, rx⟩ := seq_rel R1 ra ea
          obtain ⟨pb, zs, rfl, sb, rz⟩ := seq_rel R1 rb eb
          refine ⟨pa, pb, xs, zs, rfl, sa, sb, fun L nL => ?_⟩
          have hmin : min xs.length zs.length = (zipV us ws).length := by unfold zipV; rw [List.length_map, List.length_zip, rx.length, rz.length]
          refine ⟨fun i H acc => ∃ mp, HRel X.K mp H (h1 ++ [.lst ((zipV us ws).take i)]) ∧ Ext X.K mp1 H1 mp H ∧ mp[h1.length]? = some L, ?_, ?_, ?_⟩
          · obtain ⟨R2, X2⟩ := R1.alloc (o := .lst []) (u := .lst []) nL ⟨[], upd_same, .nil⟩
            exact ⟨_, by rw [List.take_zero]; exact R2, X2, by rw [← R1.len]; simp⟩
          · rintro i H acc x y Tp ⟨mp, R2, X2, hn⟩ hx hy nT hL
            obtain ⟨R3, X3⟩ := R2.new (.tup [x, y]) nT
            obtain ⟨hix, rfl⟩ := List.getElem?_eq_some_iff.mp hx
            obtain ⟨hiy, rfl⟩ := List.getElem?_eq_some_iff.mp hy
            have iu : i < us.length := by rw [rx.length]; exact hix
            have iw : i < ws.length := by rw [rz.length]; exact hiy
            obtain ⟨x', ex, rx'⟩ := rx.get (List.getElem?_eq_getElem iu)
            obtain ⟨y', ey, ry'⟩ := rz.get (List.getElem?_eq_getElem iw)
            rw [List.getElem?_eq_getElem hix] at ex
            rw [List.getElem?_eq_getElem hiy] at ey
            cases ex
            cases ey
            have hi : i < (zipV us ws).length := by rw [← hmin]; omega
            have tk : (zipV us ws).take (i + 1) = (zipV us ws).take i ++ [mkTup [us[i], ws[i]]] := by
              have ez : (zipV us ws)[i] = mkTup [us[i], ws[i]] := by simp [zipV]
              rw [List.take_succ_eq_append_getElem hi, ez]
            obtain ⟨xs2, o2, rl⟩ := R3.obj hn (o := .lst ((zipV us ws).take i)) (by simp)
            have oL : (upd H Tp (.tup [xs[i], zs[i]])) L = some (.lst acc) := by
              rw [upd_ne (ne_of_none hL nT)]
              exact hL
            rw [oL] at o2
            cases o2
            obtain ⟨R4, X4⟩ := R3.write (u := .lst (acc ++ [.ref Tp])) (o := .lst ((zipV us ws).take i ++ [mkTup [us[i], ws[i]]])) hn ⟨_, upd_same, (rl.append (.cons (mkTup_rel (xs := [xs[i], zs[i]]) (.of upd_same) (.cons (rx'.mono (X2.trans X3)) (.cons (ry'.mono (X2.trans X3)) .nil))) .nil)).mono (R3.extW _ hn)⟩
            refine ⟨mp, ?_, (X2.trans X3).trans X4, hn⟩
            rw [tk]
            have e5 : (h1 ++ [O.lst ((zipV us ws).take i)]).set h1.length (.lst ((zipV us ws).take i ++ [mkTup [us[i], ws[i]]])) = h1 ++ [.lst ((zipV us ws).take i ++ [mkTup [us[i], ws[i]]])] := by
              rw [List.set_append_right _ _ (Nat.le_refl _), Nat.sub_self]
              rfl
            rw [← e5]
            exact R4
          · rintro H' acc hL ⟨mp, R2, X2, hn⟩
            rw [hmin, List.take_length] at R2
            exact q1 mp _ H' R2 X2 (.r hn)
    · cases e
  · exact q1.elim
end
end Dq
namespace Dq
open PySem PySem.Spec PyProof.Rows L2
/-! ### sorted: data of one kind (tuples too) -/
abbrev dkey (d : D) : List (Int ⊕ List Nat) := PySem.W.keyToks d.py
def dle (a b : D) : Bool := !PyProof.Rows.lexLt itemOrd (dkey b) (dkey a)
def srtD (ds : List D) : List D := ds.mergeSort dle
def sortOk (ds : List D) : Bool := (ds.all fun a => a.fit 64 && ds.all fun b => PySem.W.alike a.py b.py) && ((ds.all fun a => match a with | .tup (_ :: _) => true | _ => false) || ds.all fun a => match a with | .tup _ => false | .non => false | _ => true)
def cSortD : List Val → Hh → Option (Val × Hh)
  | [.r n], h => (match h[n]? with
    | some (.lst vs) => (allD vs).bind fun ds => if sortOk ds = true then some (.r h.length, h ++ [.lst ((srtD ds).map .d)]) else none
    | _ => none)
  | _, _ => none
theorem pys_map : ∀ ds : List D, pys ds = ds.map D.py
  | [] => rfl
  | d :: ds => by rw [pys, pys_map ds, List.map_cons]
theorem sortOk_alike {ds : List D} (h : sortOk ds = true) : PySem.W.AllAlike (pys ds) := by
  unfold sortOk at h
  simp only [Bool.and_eq_true, List.all_eq_true] at h
  rw [pys_map]
  intro a ha b hb
  obtain ⟨x, hx, rfl⟩ := List.mem_map.mp ha
  obtain ⟨y, hy, rfl⟩ := List.mem_map.mp hb
  exact (h.1 x hx).2 y hy
theorem sortOk_fit {ds : List D} (h : sortOk ds = true) : ∀ d ∈ pys ds, d.depth ≤ 64 := by
  unfold sortOk at h
  simp only [Bool.and_eq_true, List.all_eq_true] at h
  rw [pys_map]
  intro a ha
  obtain ⟨x, hx, rfl⟩ := List.mem_map.mp ha
  exact (fit_shaped 64 x (h.1 x hx).1).2
theorem sortOk_sortable {ds : List D} (h : sortOk ds = true) : PySem.W.Sortable (pys ds) := by
  unfold sortOk at h
  simp only [Bool.and_eq_true, Bool.or_eq_true, List.all_eq_true] at h
  rw [pys_map]
  rcases h.2 with h | h
  · refine .inl fun a ha => ?_
    obtain ⟨x, hx, rfl⟩ := List.mem_map.mp ha
    have q := h x hx
    split at q
    · rename_i y r
      exact ⟨y.py, pys r, rfl⟩
    · cases q
  · refine .inr fun a ha => ?_
    obtain ⟨x, hx, rfl⟩ := List.mem_map.mp ha
    have q := h x hx
    cases x <;> simp at q <;> refine ⟨?_, fun xs e => ?_⟩ <;> first | (intro e; simp [D.py] at e) | (simp [D.py] at e)
section
variable {X : Cx}
theorem rds_reads {pins : List (Addr × Obj)} {σ : L2.St} {H : Hp} {s : Shared} (I : Inv X pins σ H s) : ∀ {ds : List D} {ys : List V} {its : List Value}, RDs X.K H ds ys → Vals ys its → PySem.W.EachIs (fun v d => ∃ as, Reads s.heap v d as) its (pys ds)
  | _, _, _, .nil, .nil => by rw [pys]; exact .nil
  | _, _, _, .cons a b, .cons c d => by rw [pys]; exact .cons (Dp.reads I _ _ _ a.dp c) (rds_reads I b d)
/-- data, its value here, its value there -/
abbrev Row3 := D × V × Value
theorem rows3 {K : PySem.W.Frag} {H : Hp} {hp : Heap} : ∀ {ds : List D} {ys : List V} {its : List Value}, RDs K H ds ys → Vals ys its → PySem.W.EachIs (fun v d => ∃ as, Reads hp v d as) its (pys ds) →
    ∃ tr : List Row3, tr.map (·.1) = ds ∧ tr.map (·.2.1) = ys ∧ tr.map (·.2.2) = its ∧ ∀ t ∈ tr, RD K H t.1 t.2.1 ∧ RelV t.2.1 t.2.2 ∧ ∃ as, Reads hp t.2.2 t.1.py as
  | _, _, _, .nil, .nil, _ => ⟨[], rfl, rfl, rfl, fun t ht => by cases ht⟩
  | _, _, _, .cons (d := d) (v := v) a b, .cons (b := u) c e, q => by
    rw [pys] at q
    cases q with
    | cons q1 q2 =>
      obtain ⟨tr, e1, e2, e3, h⟩ := rows3 b e q2
      refine ⟨(d, v, u) :: tr, by rw [List.map_cons, e1], by rw [List.map_cons, e2], by rw [List.map_cons, e3], fun t ht => ?_⟩
      rcases List.mem_cons.mp ht with rfl | ht
      · exact ⟨a, c, q1⟩
      · exact h t ht
theorem rows_rds {K : PySem.W.Frag} {H : Hp} : ∀ {tr : List Row3}, (∀ t ∈ tr, RD K H t.1 t.2.1 ∧ RelV t.2.1 t.2.2) → RDs K H (tr.map (·.1)) (tr.map (·.2.1)) ∧ Vals (tr.map (·.2.1)) (tr.map (·.2.2))
  | [], _ => ⟨.nil, .nil⟩
  | t :: tr, h => by
    obtain ⟨a, b⟩ := h t (List.mem_cons_self ..)
    obtain ⟨c, d⟩ := rows_rds fun t ht => h t (List.mem_cons_of_mem _ ht)
    exact ⟨.cons a c, .cons b d⟩
theorem ok_sortD (hu : X.A.units + 100 < cLine) : CallR X (.builtin "sorted") (rc X.K cSortD) := by
  intro pins s σ H xs us Q I r ⟨mp, h, vs, v, h', R, rs, e, q⟩
  unfold cSortD at e
  split at e
  · rename_i n h0
    split at e
    · rename_i ws en
      obtain ⟨ds, e1, e2⟩ := Option.bind_eq_some_iff.mp e
      split at e2
      · rename_i hok
        cases e2
        cases rs with
        | cons ra rn =>
          cases rn
          cases ra with
          | r hm =>
            obtain ⟨ys, o1, ry⟩ := R.obj hm en
            rw [allD_eq e1] at ry
            have rd := ry.data
            obtain ⟨its, rv, hl, hz⟩ := I.list (.of o1)
            rw [Vals.ref1 r]
            have hr := rds_reads I rd rv
            have keep : ∀ b o, s.heap.get? b = some o → (PySem.W.sortingHeap (PySem.W.copyHeap s.heap its) (s.heap.objs.size + 1) its).get? b = some o := fun b o e => PySem.W.sorting_copy_old e
            have hr2 : PySem.W.EachIs (fun v d => ∃ as, Reads (PySem.W.sortingHeap (PySem.W.copyHeap s.heap its) (s.heap.objs.size + 1) its) v d as) its (pys ds) := hr.mono fun _ _ ⟨as, z⟩ => ⟨as, Reads.keeps keep z⟩
            obtain ⟨tr, t1, t2, t3, ht⟩ := rows3 rd rv hr2
            have hal := sortOk_alike hok
            have hlen : its.length ≤ sizeLine := by rw [← rv.length]; exact hz
            refine PySem.W.sorted_vals (κ := PySem.W.dataKind (PySem.W.sortingHeap (PySem.W.copyHeap s.heap its) (s.heap.objs.size + 1) its) (pys ds)) hl.isList (PySem.W.SortsAt.data (s := { s with heap := PySem.W.sortingHeap (PySem.W.copyHeap s.heap its) (s.heap.objs.size + 1) its }) hr2 hal (sortOk_sortable hok) fun d hd => ?_) hlen ?_
            · have := sortOk_fit hok d hd
              show X.A.units + 1 + 1 + d.depth < cLine
              omega
            · let r0 : Row3 → Row3 → Bool := fun a b => dle a.1 b.1
              have m1 : (tr.mergeSort r0).map (·.1) = srtD ds := by
                unfold srtD
                rw [← t1]
                exact List.map_mergeSort fun a _ b _ => rfl
              have m3 : PySem.W.sortVals (PySem.W.dataKind (PySem.W.sortingHeap (PySem.W.copyHeap s.heap its) (s.heap.objs.size + 1) its) (pys ds)) false its its = (tr.mergeSort r0).map (·.2.2) := by
                unfold PySem.W.sortVals
                have ez : its.zip its = tr.map fun t => (t.2.2, t.2.2) := by
                  rw [← t3, List.zip_map']
                rw [ez, ← List.map_mergeSort (r := r0), List.map_map]
                · rfl
                · intro a ha b hb
                  have ka : ∀ t ∈ tr, PySem.W.keyD (PySem.W.dataKind (PySem.W.sortingHeap (PySem.W.copyHeap s.heap its) (s.heap.objs.size + 1) its) (pys ds)) t.2.2 = dkey t.1 := fun t htm => by
                    obtain ⟨_, _, as, z⟩ := ht t htm
                    refine PySem.W.keyD_some (PySem.W.dataKind_some hal ?_ z)
                    rw [pys_map, ← t1]
                    exact List.mem_map_of_mem (List.mem_map_of_mem htm)
                  have k1 := ka a ha
                  have k2 := ka b hb
                  show (!PyProof.Rows.lexLt itemOrd (dkey b.1) (dkey a.1)) = _
                  rw [← k1, ← k2]
                  rfl
              have hp : ∀ t ∈ tr.mergeSort r0, t ∈ tr := fun t hm => List.mem_mergeSort.mp hm
              obtain ⟨rd2, rv2⟩ := rows_rds (K := X.K) (H := H) (tr := tr.mergeSort r0) fun t hm => ⟨(ht t (hp t hm)).1, (ht t (hp t hm)).2.1⟩
              obtain ⟨ep, he'⟩ := PyProof.Rows.sortedAll_at s.heap its (PySem.W.sortVals (PySem.W.dataKind (PySem.W.sortingHeap (PySem.W.copyHeap s.heap its) (s.heap.objs.size + 1) its) (pys ds)) false its its).toArray
              rw [m3] at he' ⊢
              have hn : H (s.heap.objs.size + 1) = none := I.hok.fresh (Nat.le_succ _)
              have hlen2 : ((tr.mergeSort r0).map (·.2.1)).length ≤ sizeLine := by
                rw [List.length_map, List.length_mergeSort, ← List.length_map (f := fun t : Row3 => t.2.2), t3]
                exact hlen
              refine ⟨.ref _, upd H (s.heap.objs.size + 1) (.lst ((tr.mergeSort r0).map (·.2.1))), I.laid (t' := s.toks) (fun _ _ => PyProof.Rows.sortedAll_old) (Nat.le_succ _) ⟨hlen2, _, ep, rv2, he'⟩, rfl, ?_⟩
              obtain ⟨R2, X2⟩ := R.alloc (o := .lst ((srtD ds).map .d)) (u := .lst ((tr.mergeSort r0).map (·.2.1))) hn ⟨_, upd_same, by rw [← m1]; exact (rd2.vals (mp := mp)).mono (ext_num hn)⟩
              exact q _ _ _ R2 X2 (.r (by rw [← R.len]; simp))
      · cases e2
    · cases e
  · cases e
end
section
variable {G : Gm} {S : Sx}
theorem Ctx.un2 {k : Nat} {T : Tab G} {X : Cx} {W : WX} (C : Ctx G S k T X W) : X.A.units + 100 < cLine := by
  have := C.room.un
  omega
theorem h_sortD : HCb G S (.builtin "sorted") cSortD := fun _ _ _ _ C => ok_sortD C.un2
end
end Dq
namespace Dq
open PySem PySem.Spec PyProof.Rows L2
/-! ### name = {k: v for ..}, the dict used where it is made -/
abbrev Blks (X : Cx) (scope : Scope) (p : Cx → Prop) : Prop := ∀ (s : Shared) (H : Hp) (C : Addr) (cl : List (Str × Addr)) (fp : List Addr), p (X.blk s H scope (compEnvC scope cl C X.env) fp)
theorem ps_keepDc {X : Cx} {i : Nat} {y : Str} {py : Pos} {kx vx tg iter : Expr} {ifs : List Expr} {scope : Scope} {own : List (Str × Nat)} {pos spos : Pos} {wi : TI} {g : TG} {tt : TT} {tk tv : TE}
    (calm : X.calm = true) (nd : X.N.Nodup) (at_ : X.N[i]? = some y) (loc : X.env.scope.names.lookup y = some .local) (used : swapsWith (.DictComp kx vx [⟨tg, iter, ifs, 0⟩] scope pos) (some (.Name y py)) spos.line X.env = pure true)
    (hi : PI X tg iter wi) (ok : BlkOk X.N X.env.scope scope own) (hg : Blks X scope fun Y => PG Y tg g) (ht : Blks X scope fun Y => PTs Y ifs tt) (hk : Blks X scope fun Y => PE Y kx tk) (hv : Blks X scope fun Y => PE Y vx tv) (hs : ∀ x, foldedSetIterable iter X.env x = pure x) :
    PS X (.Assign [.Name y py] (.DictComp kx vx [⟨tg, iter, ifs, 0⟩] scope pos) spos) (tAsg (tDc wi g tt tk tv (own.map (·.2))) (gName i)) := by
  constructor
  intro pins s σ H D I want
  rw [exec_Assign_Name_used _ _ _ _ used]
  apply wpAny_bind
  apply wpAny_standAt
  apply wpAny_bind
  show wpAny _ X.A (do let _ ← comprehension (.DictComp kx vx [⟨tg, iter, ifs, 0⟩] scope pos) scope X.env (firstIterPos [⟨tg, iter, ifs, 0⟩] pos) newDict false (eval iter X.env) (some (assign (.Name y py) X.env))) _ _ s
  have want : tDc wi g tt tk tv (own.map (·.2)) σ H (fun x H1 => gName i x σ H1 D.nx) := want
  have back : ∀ L C s' m H', Inv X pins σ H' s' → gName i (.ref L) σ H' D.nx → s'.heap.Ns C m → FpOk X pins H' C →
      compPost (model X.prog X.w) X.A X.xe (some (assign (.Name y py) X.env)) (fun _ s' => SP X pins D .next s') (.ref L) C (.ok .next) s' := by
    intro L C s' m H' I' q ns f
    show wpAny _ _ (assign (.Name y py) X.env (.ref L)) _ _ _
    obtain ⟨f0, f1, f2, f3, f4, f5⟩ := f
    refine wpAny_assign_Name (store_ok2 (v := V.ref L) I' nd at_ (.inl loc) rfl (fun s2 I2 ⟨a, sb, ha⟩ => ⟨m, ns.sameBut sb ?_, fun h3 sb3 => ?_⟩) (.inr loc))
    · intro e
      rcases ha with z | z
      · exact f1 (e.trans z)
      · exact f4 y a z e.symm
    · exact ⟨_, H', I2.turned (t' := s2.toks) (fun b o hb e => (sb3.2 b hb).trans e) f0 f1 f3 f4 f5, q⟩
  exact wpAny_bind (thn (dc_core (Qf := fun _ s' => SP X pins D .next s') calm nd I hi ok hg ht hk hv hs want back) fun _ s' hq => wpAny_pure (wpAny_pure hq))
section
variable {G : Gm} {S : Sx} {pos : Pos}
theorem ds_setDc (i : Nat) {y : Str} {py spos : Pos} {kx vx tg iter : Expr} {ifs : List Expr} {scope : Scope} {it : Iv G} {g : Tg} {o : List Nat} {t : Tv G} {a e : Ev G} (own : List (Str × Nat)) (hi : DI G S tg iter it) (hg : DG G (S.blk scope) tg o g) (ht : DTs G (S.blk scope) ifs t) (ha : DE G (S.blk scope) kx a) (he : DE G (S.blk scope) vx e)
    (hN : S.N[i]? = some y := by rfl) (hl : S.sc.names.lookup y = some .local := by rfl) (ok : blkC S.N S.sc scope own = true := by decide +kernel) (ho : ∀ i ∈ o, i ∈ own.map (·.2) := by decide)
    (hsw : (S.sc.names.lookup y == some .local && py.line == pos.line && !(scope.names.any fun (n, k) => n == y && (k == .local || k == .cell))) = true := by rfl)
    (hs : ∀ env x, foldedSetIterable iter env x = pure x := by intro _ _; rfl) : DS G S (.Assign [.Name y py] (.DictComp kx vx [⟨tg, iter, ifs, 0⟩] scope pos) spos) (sSet (eGc (eDc it g t a e (own.map (·.2)))) (gVar i)) := fun k T X W C => by
  have ok := blkOk_by ok
  have nd : X.N.Nodup := by rw [C.N]; exact C.nd
  have blk : ∀ s H Cc cl fp, _ := fun s H Cc cl fp => C.blk ok.kind s H Cc cl fp
  refine (ps_keepDc (i := i) (wi := Lft X.K (rI X.K) W (it T)) (g := LftG X.K o g) (tt := Lft X.K rB W0 (t T)) (tk := Lft X.K (rV X.K) W0 (a T)) (tv := Lft X.K (rV X.K) W0 (e T)) C.calm nd (by rw [C.N]; exact hN) (by rw [C.sc]; exact hl) (by rw [sw_dcomp C.sc (by rw [C.sc]; exact C.kd), hsw]) (hi k T X W C) (by rw [C.N, C.sc]; exact ok)
    (fun s H Cc cl fp => hg k T _ _ (blk s H Cc cl fp)) (fun s H Cc cl fp => ht k T _ _ (blk s H Cc cl fp)) (fun s H Cc cl fp => ha k T _ _ (blk s H Cc cl fp)) (fun s H Cc cl fp => he k T _ _ (blk s H Cc cl fp)) (hs _)).wk fun D σ H ⟨mp, ρ, h, R, E, q⟩ => ?_
  apply dc_t ho
  obtain ⟨mp', ρ', h', R', E', z⟩ := se_bnd (Q1 := fun x H1 => gName i x σ H1 D.nx) R E q fun v y mp1 h1 H1 X1 R1 E1 r1 q1 => q1 mp1 _ H1 R1 .refl (E1.set r1 i)
  exact ⟨mp', ρ', h', R', E', Res.gc R' z⟩
end
end Dq
namespace Lw
open PySem PySem.Spec PyProof.Rows L2 Dq
def top (i : Nat) : Stmt := PySem.Challenge.pw_pathstrue_k09_refutations_called_over_th.main.body.getD i (.Pass ⟨0, 0, 0, 0⟩)
abbrev s_is_whole : Stmt := top 12
abbrev s_ascends : Stmt := top 13
abbrev s_is_name : Stmt := top 14
abbrev s_is_integer : Stmt := top 17
abbrev s_is_form : Stmt := top 18
abbrev s_constant : Stmt := top 19
abbrev s_named : Stmt := top 20
abbrev s_combined : Stmt := top 21
abbrev s_names_by : Stmt := top 22
abbrev s_put_by : Stmt := top 23
abbrev s_divisor : Stmt := top 29
abbrev s_normal_of : Stmt := top 30
abbrev s_is_atom : Stmt := top 31
abbrev s_best_of : Stmt := top 32
abbrev s_check_names : Stmt := top 41
abbrev s__check_box : Stmt := top 42
abbrev s_check_over : Stmt := top 43
abbrev s_bounds_by : Stmt := top 44
abbrev s_sum_of : Stmt := top 45
abbrev s__are_pairs : Stmt := top 46
abbrev s__is_step : Stmt := top 47
abbrev s__is_paper : Stmt := top 48
abbrev s_pushed_bounds : Stmt := top 49
abbrev s_beyond : Stmt := top 50
abbrev s_is_better : Stmt := top 51
abbrev s_is_never : Stmt := top 52
abbrev s_halves : Stmt := top 53
abbrev s_Reading_init : Stmt := inClass (top 54) 0
abbrev s_Reading_is_right : Stmt := inClass (top 54) 1
abbrev s_Reading_fault : Stmt := inClass (top 54) 2
abbrev s_fault_by : Stmt := top 55
abbrev s_refutation_fault : Stmt := top 56
abbrev s_are_sums : Stmt := top 60
abbrev s__scale : Stmt := top 61
abbrev s__called : Stmt := top 62
abbrev s_refutation_called : Stmt := top 63
abbrev s__law_draws : Stmt := top 65
abbrev s__law_put : Stmt := top 66
abbrev s__law_divisor : Stmt := top 67
abbrev s__law_normal : Stmt := top 68
abbrev s__law_atoms : Stmt := top 69
abbrev s__law_form : Stmt := top 70
abbrev s__law_scale : Stmt := top 71
abbrev s__law_due : Stmt := top 72
abbrev s_law : Stmt := top 73
def d_is_whole : He.DefD := ⟨("is_whole", none), "is_whole", "is_whole", defArgs s_is_whole, defBody s_is_whole, defScope s_is_whole, [], []⟩
def d_ascends : He.DefD := ⟨("ascends", none), "ascends", "ascends", defArgs s_ascends, defBody s_ascends, defScope s_ascends, [], []⟩
def d_is_name : He.DefD := ⟨("is_name", none), "is_name", "is_name", defArgs s_is_name, defBody s_is_name, defScope s_is_name, [], []⟩
def d_is_integer : He.DefD := ⟨("is_integer", none), "is_integer", "is_integer", defArgs s_is_integer, defBody s_is_integer, defScope s_is_integer, [], []⟩
def d_is_form : He.DefD := ⟨("is_form", none), "is_form", "is_form", defArgs s_is_form, defBody s_is_form, defScope s_is_form, [], []⟩
def d_constant : He.DefD := ⟨("constant", none), "constant", "constant", defArgs s_constant, defBody s_constant, defScope s_constant, [], []⟩
def d_named : He.DefD := ⟨("named", none), "named", "named", defArgs s_named, defBody s_named, defScope s_named, [], []⟩
def d_combined : He.DefD := ⟨("combined", none), "combined", "combined", defArgs s_combined, defBody s_combined, defScope s_combined, [], []⟩
def d_names_by : He.DefD := ⟨("names_by", none), "names_by", "names_by", defArgs s_names_by, defBody s_names_by, defScope s_names_by, [], []⟩
def d_put_by : He.DefD := ⟨("put_by", none), "put_by", "put_by", defArgs s_put_by, defBody s_put_by, defScope s_put_by, [], []⟩
def d_divisor : He.DefD := ⟨("divisor", none), "divisor", "divisor", defArgs s_divisor, defBody s_divisor, defScope s_divisor, [], []⟩
def d_normal_of : He.DefD := ⟨("normal_of", none), "normal_of", "normal_of", defArgs s_normal_of, defBody s_normal_of, defScope s_normal_of, [], []⟩
def d_is_atom : He.DefD := ⟨("is_atom", none), "is_atom", "is_atom", defArgs s_is_atom, defBody s_is_atom, defScope s_is_atom, [], []⟩
def d_best_of : He.DefD := ⟨("best_of", none), "best_of", "best_of", defArgs s_best_of, defBody s_best_of, defScope s_best_of, [], []⟩
def d_check_names : He.DefD := ⟨("check_names", none), "check_names", "check_names", defArgs s_check_names, defBody s_check_names, defScope s_check_names, [], []⟩
def d__check_box : He.DefD := ⟨("_check_box", none), "_check_box", "_check_box", defArgs s__check_box, defBody s__check_box, defScope s__check_box, [], []⟩
def d_check_over : He.DefD := ⟨("check_over", none), "check_over", "check_over", defArgs s_check_over, defBody s_check_over, defScope s_check_over, [], []⟩
def d_bounds_by : He.DefD := ⟨("bounds_by", none), "bounds_by", "bounds_by", defArgs s_bounds_by, defBody s_bounds_by, defScope s_bounds_by, [], []⟩
def d_sum_of : He.DefD := ⟨("sum_of", none), "sum_of", "sum_of", defArgs s_sum_of, defBody s_sum_of, defScope s_sum_of, [], []⟩
def d__are_pairs : He.DefD := ⟨("_are_pairs", none), "_are_pairs", "_are_pairs", defArgs s__are_pairs, defBody s__are_pairs, defScope s__are_pairs, [], []⟩
def d__is_step : He.DefD := ⟨("_is_step", none), "_is_step", "_is_step", defArgs s__is_step, defBody s__is_step, defScope s__is_step, [], []⟩
def d__is_paper : He.DefD := ⟨("_is_paper", none), "_is_paper", "_is_paper", defArgs s__is_paper, defBody s__is_paper, defScope s__is_paper, [], []⟩
def d_pushed_bounds : He.DefD := ⟨("pushed_bounds", none), "pushed_bounds", "pushed_bounds", defArgs s_pushed_bounds, defBody s_pushed_bounds, defScope s_pushed_bounds, [], []⟩
def d_beyond : He.DefD := ⟨("beyond", none), "beyond", "beyond", defArgs s_beyond, defBody s_beyond, defScope s_beyond, [], []⟩
def d_is_better : He.DefD := ⟨("is_better", none), "is_better", "is_better", defArgs s_is_better, defBody s_is_better, defScope s_is_better, [], []⟩
def d_is_never : He.DefD := ⟨("is_never", none), "is_never", "is_never", defArgs s_is_never, defBody s_is_never, defScope s_is_never, [], []⟩
def d_halves : He.DefD := ⟨("halves", none), "halves", "halves", defArgs s_halves, defBody s_halves, defScope s_halves, [], []⟩
def d_Reading_init : He.DefD := ⟨("Reading", some "__init__"), "__init__", "Reading.__init__", defArgs s_Reading_init, defBody s_Reading_init, defScope s_Reading_init, [], []⟩
def d_Reading_is_right : He.DefD := ⟨("Reading", some "_is_right"), "_is_right", "Reading._is_right", defArgs s_Reading_is_right, defBody s_Reading_is_right, defScope s_Reading_is_right, [], []⟩
def d_Reading_fault : He.DefD := ⟨("Reading", some "fault"), "fault", "Reading.fault", defArgs s_Reading_fault, defBody s_Reading_fault, defScope s_Reading_fault, [], []⟩
def d_fault_by : He.DefD := ⟨("fault_by", none), "fault_by", "fault_by", defArgs s_fault_by, defBody s_fault_by, defScope s_fault_by, [], []⟩
def d_refutation_fault : He.DefD := ⟨("refutation_fault", none), "refutation_fault", "refutation_fault", defArgs s_refutation_fault, defBody s_refutation_fault, defScope s_refutation_fault, [], []⟩
def d_are_sums : He.DefD := ⟨("are_sums", none), "are_sums", "are_sums", defArgs s_are_sums, defBody s_are_sums, defScope s_are_sums, [], []⟩
def d__scale : He.DefD := ⟨("_scale", none), "_scale", "_scale", defArgs s__scale, defBody s__scale, defScope s__scale, [], []⟩
def d__called : He.DefD := ⟨("_called", none), "_called", "_called", defArgs s__called, defBody s__called, defScope s__called, [], []⟩
def d_refutation_called : He.DefD := ⟨("refutation_called", none), "refutation_called", "refutation_called", defArgs s_refutation_called, defBody s_refutation_called, defScope s_refutation_called, [], []⟩
def d__law_draws : He.DefD := ⟨("_law_draws", none), "_law_draws", "_law_draws", defArgs s__law_draws, defBody s__law_draws, defScope s__law_draws, [], []⟩
def d__law_put : He.DefD := ⟨("_law_put", none), "_law_put", "_law_put", defArgs s__law_put, defBody s__law_put, defScope s__law_put, [], []⟩
def d__law_divisor : He.DefD := ⟨("_law_divisor", none), "_law_divisor", "_law_divisor", defArgs s__law_divisor, defBody s__law_divisor, defScope s__law_divisor, [], []⟩
def d__law_normal : He.DefD := ⟨("_law_normal", none), "_law_normal", "_law_normal", defArgs s__law_normal, defBody s__law_normal, defScope s__law_normal, [], []⟩
def d__law_atoms : He.DefD := ⟨("_law_atoms", none), "_law_atoms", "_law_atoms", defArgs s__law_atoms, defBody s__law_atoms, defScope s__law_atoms, [], []⟩
def d__law_form : He.DefD := ⟨("_law_form", none), "_law_form", "_law_form", defArgs s__law_form, defBody s__law_form, defScope s__law_form, [], []⟩
def d__law_scale : He.DefD := ⟨("_law_scale", none), "_law_scale", "_law_scale", defArgs s__law_scale, defBody s__law_scale, defScope s__law_scale, [], []⟩
def d__law_due : He.DefD := ⟨("_law_due", none), "_law_due", "_law_due", defArgs s__law_due, defBody s__law_due, defScope s__law_due, [], []⟩
def d_law : He.DefD := ⟨("law", none), "law", "law", defArgs s_law, defBody s_law, defScope s_law, [], []⟩
inductive F where
  | f_is_whole
  | f_ascends
  | f_is_name
  | f_is_integer
  | f_is_form
  | f_constant
  | f_named
  | f_combined
  | f_names_by
  | f_put_by
  | f_divisor
  | f_normal_of
  | f_is_atom
  | f_best_of
  | f_check_names
  | f__check_box
  | f_check_over
  | f_bounds_by
  | f_sum_of
  | f__are_pairs
  | f__is_step
  | f__is_paper
  | f_pushed_bounds
  | f_beyond
  | f_is_better
  | f_is_never
  | f_halves
  | f_Reading_init
  | f_Reading_is_right
  | f_Reading_fault
  | f_fault_by
  | f_refutation_fault
  | f_are_sums
  | f__scale
  | f__called
  | f_refutation_called
  | f__law_draws
  | f__law_put
  | f__law_divisor
  | f__law_normal
  | f__law_atoms
  | f__law_form
  | f__law_scale
  | f__law_due
  | f_law
deriving DecidableEq
def dd : F → He.DefD
  | .f_is_whole => d_is_whole
  | .f_ascends => d_ascends
  | .f_is_name => d_is_name
  | .f_is_integer => d_is_integer
  | .f_is_form => d_is_form
  | .f_constant => d_constant
  | .f_named => d_named
  | .f_combined => d_combined
  | .f_names_by => d_names_by
  | .f_put_by => d_put_by
  | .f_divisor => d_divisor
  | .f_normal_of => d_normal_of
  | .f_is_atom => d_is_atom
  | .f_best_of => d_best_of
  | .f_check_names => d_check_names
  | .f__check_box => d__check_box
  | .f_check_over => d_check_over
  | .f_bounds_by => d_bounds_by
  | .f_sum_of => d_sum_of
  | .f__are_pairs => d__are_pairs
  | .f__is_step => d__is_step
  | .f__is_paper => d__is_paper
  | .f_pushed_bounds => d_pushed_bounds
  | .f_beyond => d_beyond
  | .f_is_better => d_is_better
  | .f_is_never => d_is_never
  | .f_halves => d_halves
  | .f_Reading_init => d_Reading_init
  | .f_Reading_is_right => d_Reading_is_right
  | .f_Reading_fault => d_Reading_fault
  | .f_fault_by => d_fault_by
  | .f_refutation_fault => d_refutation_fault
  | .f_are_sums => d_are_sums
  | .f__scale => d__scale
  | .f__called => d__called
  | .f_refutation_called => d_refutation_called
  | .f__law_draws => d__law_draws
  | .f__law_put => d__law_put
  | .f__law_divisor => d__law_divisor
  | .f__law_normal => d__law_normal
  | .f__law_atoms => d__law_atoms
  | .f__law_form => d__law_form
  | .f__law_scale => d__law_scale
  | .f__law_due => d__law_due
  | .f_law => d_law
def allF : List F := [.f_is_whole, .f_ascends, .f_is_name, .f_is_integer, .f_is_form, .f_constant, .f_named, .f_combined, .f_names_by, .f_put_by, .f_divisor, .f_normal_of, .f_is_atom, .f_best_of, .f_check_names, .f__check_box, .f_check_over, .f_bounds_by, .f_sum_of, .f__are_pairs, .f__is_step, .f__is_paper, .f_pushed_bounds, .f_beyond, .f_is_better, .f_is_never, .f_halves, .f_Reading_init, .f_Reading_is_right, .f_Reading_fault, .f_fault_by, .f_refutation_fault, .f_are_sums, .f__scale, .f__called, .f_refutation_called, .f__law_draws, .f__law_put, .f__law_divisor, .f__law_normal, .f__law_atoms, .f__law_form, .f__law_scale, .f__law_due, .f_law]
theorem all_mem (f : F) : f ∈ allF := by cases f <;> decide
def fn : List He.DefD := allF.map dd
abbrev c_LETTERS : D := D.str ("abcdefghijklmnopqrstuvwxyz" : Str)
abbrev c_KEPT : D := D.tup [D.str ("and" : Str), D.str ("call" : Str), D.str ("claim" : Str), D.str ("else" : Str), D.str ("fun" : Str), D.str ("give" : Str), D.str ("if" : Str), D.str ("need" : Str), D.str ("not" : Str), D.str ("or" : Str), D.str ("skip" : Str), D.str ("tell" : Str), D.str ("while" : Str)]
abbrev c_MOST_NAME : D := D.int (8)
abbrev c_FORM : D := D.tup [D.str ("form" : Str)]
abbrev c_MOST_PARTS : D := D.int (40)
abbrev c_LEAST : D := D.str ("least" : Str)
abbrev c_MOST : D := D.str ("most" : Str)
abbrev c_TRUE : D := D.tup [D.str ("least" : Str), D.tup [D.int (0), D.tup []]]
abbrev c_NEVER : D := D.tup [D.str ("least" : Str), D.tup [D.int (-1), D.tup []]]
abbrev c_MOST_NAMES : D := D.int (12)
abbrev c_MOST_ATOMS : D := D.int (400)
abbrev c_MOST_SIDE : D := D.int (1000000)
abbrev c_MOST_SPLITS : D := D.int (100)
abbrev c_SIDES : D := D.tup [c_LEAST, c_MOST]
abbrev c_ENDS : D := D.tup [D.str ("false" : Str), D.str ("empty" : Str), D.str ("split" : Str)]
abbrev c_SUM : D := D.str ("sum" : Str)
abbrev c_FALSE : D := D.str ("false" : Str)
abbrev t_STEPS : List (Str × D) := [("push", D.int (5)), ("sum", D.int (2)), ("false", D.int (2)), ("empty", D.int (2)), ("split", D.int (5))]
def psF : F → List Str
  | .f_is_whole => ["value", "least", "most"]
  | .f_ascends => ["values"]
  | .f_is_name => ["value"]
  | .f_is_integer => ["value"]
  | .f_is_form => ["value"]
  | .f_constant => ["number"]
  | .f_named => ["name"]
  | .f_combined => ["number", "form", "factor", "other"]
  | .f_names_by => ["form"]
  | .f_put_by => ["form", "forms"]
  | .f_divisor => ["one", "other"]
  | .f_normal_of => ["form"]
  | .f_is_atom => ["value"]
  | .f_best_of => ["form", "bounds", "is_least"]
  | .f_check_names => ["names"]
  | .f__check_box => ["names", "box"]
  | .f_check_over => ["names", "atoms"]
  | .f_bounds_by => ["names", "box"]
  | .f_sum_of => ["atoms", "pairs"]
  | .f__are_pairs => ["value"]
  | .f__is_step => ["names", "value", "deep"]
  | .f__is_paper => ["names", "value", "deep"]
  | .f_pushed_bounds => ["bounds", "name", "side", "value"]
  | .f_beyond => ["bounds", "name", "side", "value"]
  | .f_is_better => ["bounds", "name", "side", "value"]
  | .f_is_never => ["atom", "bounds"]
  | .f_halves => ["bounds", "name", "value"]
  | .f_Reading_init => ["self", "bounds", "atoms"]
  | .f_Reading_is_right => ["self", "step"]
  | .f_Reading_fault => ["self", "paper", "place"]
  | .f_fault_by => ["names", "box", "atoms", "paper"]
  | .f_refutation_fault => ["names", "box", "atoms", "value"]
  | .f_are_sums => ["refutation"]
  | .f__scale => ["atom", "forms"]
  | .f__called => ["atoms", "refutation", "forms", "rows"]
  | .f_refutation_called => ["names", "atoms", "refutation", "forms"]
  | .f__law_draws => ["script", "many"]
  | .f__law_put => ["form", "forms"]
  | .f__law_divisor => ["one", "other"]
  | .f__law_normal => ["form"]
  | .f__law_atoms => ["draws"]
  | .f__law_form => ["draws"]
  | .f__law_scale => ["form"]
  | .f__law_due => ["names", "atoms", "forms"]
  | .f_law => ["script"]
def atF : F → Str × Option Str
  | .f_is_whole => ("is_whole", none)
  | .f_ascends => ("ascends", none)
  | .f_is_name => ("is_name", none)
  | .f_is_integer => ("is_integer", none)
  | .f_is_form => ("is_form", none)
  | .f_constant => ("constant", none)
  | .f_named => ("named", none)
  | .f_combined => ("combined", none)
  | .f_names_by => ("names_by", none)
  | .f_put_by => ("put_by", none)
  | .f_divisor => ("divisor", none)
  | .f_normal_of => ("normal_of", none)
  | .f_is_atom => ("is_atom", none)
  | .f_best_of => ("best_of", none)
  | .f_check_names => ("check_names", none)
  | .f__check_box => ("_check_box", none)
  | .f_check_over => ("check_over", none)
  | .f_bounds_by => ("bounds_by", none)
  | .f_sum_of => ("sum_of", none)
  | .f__are_pairs => ("_are_pairs", none)
  | .f__is_step => ("_is_step", none)
  | .f__is_paper => ("_is_paper", none)
  | .f_pushed_bounds => ("pushed_bounds", none)
  | .f_beyond => ("beyond", none)
  | .f_is_better => ("is_better", none)
  | .f_is_never => ("is_never", none)
  | .f_halves => ("halves", none)
  | .f_Reading_init => ("Reading", some "__init__")
  | .f_Reading_is_right => ("Reading", some "_is_right")
  | .f_Reading_fault => ("Reading", some "fault")
  | .f_fault_by => ("fault_by", none)
  | .f_refutation_fault => ("refutation_fault", none)
  | .f_are_sums => ("are_sums", none)
  | .f__scale => ("_scale", none)
  | .f__called => ("_called", none)
  | .f_refutation_called => ("refutation_called", none)
  | .f__law_draws => ("_law_draws", none)
  | .f__law_put => ("_law_put", none)
  | .f__law_divisor => ("_law_divisor", none)
  | .f__law_normal => ("_law_normal", none)
  | .f__law_atoms => ("_law_atoms", none)
  | .f__law_form => ("_law_form", none)
  | .f__law_scale => ("_law_scale", none)
  | .f__law_due => ("_law_due", none)
  | .f_law => ("law", none)
abbrev G : Gm where
  F := Lw.F
  fns := ([(("is_whole" : Str), F.f_is_whole), (("ascends" : Str), F.f_ascends), (("is_name" : Str), F.f_is_name), (("is_integer" : Str), F.f_is_integer), (("is_form" : Str), F.f_is_form), (("constant" : Str), F.f_constant), (("named" : Str), F.f_named), (("combined" : Str), F.f_combined), (("names_by" : Str), F.f_names_by), (("put_by" : Str), F.f_put_by), (("divisor" : Str), F.f_divisor), (("normal_of" : Str), F.f_normal_of), (("is_atom" : Str), F.f_is_atom), (("best_of" : Str), F.f_best_of), (("check_names" : Str), F.f_check_names), (("_check_box" : Str), F.f__check_box), (("check_over" : Str), F.f_check_over), (("bounds_by" : Str), F.f_bounds_by), (("sum_of" : Str), F.f_sum_of), (("_are_pairs" : Str), F.f__are_pairs), (("_is_step" : Str), F.f__is_step), (("_is_paper" : Str), F.f__is_paper), (("pushed_bounds" : Str), F.f_pushed_bounds), (("beyond" : Str), F.f_beyond), (("is_better" : Str), F.f_is_better), (("is_never" : Str), F.f_is_never), (("halves" : Str), F.f_halves), (("fault_by" : Str), F.f_fault_by), (("refutation_fault" : Str), F.f_refutation_fault), (("are_sums" : Str), F.f_are_sums), (("_scale" : Str), F.f__scale), (("_called" : Str), F.f__called), (("refutation_called" : Str), F.f_refutation_called), (("_law_draws" : Str), F.f__law_draws), (("_law_put" : Str), F.f__law_put), (("_law_divisor" : Str), F.f__law_divisor), (("_law_normal" : Str), F.f__law_normal), (("_law_atoms" : Str), F.f__law_atoms), (("_law_form" : Str), F.f__law_form), (("_law_scale" : Str), F.f__law_scale), (("_law_due" : Str), F.f__law_due), (("law" : Str), F.f_law)] : List (Str × Lw.F))
  cns := ([(("LETTERS" : Str), c_LETTERS), (("KEPT" : Str), c_KEPT), (("MOST_NAME" : Str), c_MOST_NAME), (("FORM" : Str), c_FORM), (("MOST_PARTS" : Str), c_MOST_PARTS), (("LEAST" : Str), c_LEAST), (("MOST" : Str), c_MOST), (("TRUE" : Str), c_TRUE), (("NEVER" : Str), c_NEVER), (("MOST_NAMES" : Str), c_MOST_NAMES), (("MOST_ATOMS" : Str), c_MOST_ATOMS), (("MOST_SIDE" : Str), c_MOST_SIDE), (("MOST_SPLITS" : Str), c_MOST_SPLITS), (("SIDES" : Str), c_SIDES), (("ENDS" : Str), c_ENDS), (("SUM" : Str), c_SUM), (("FALSE" : Str), c_FALSE)] : List (Str × D))
  blt := [("abs" : Str), ("all" : Str), ("any" : Str), ("len" : Str), ("sorted" : Str), ("zip" : Str), ("range" : Str), ("tuple" : Str), ("list" : Str), ("dict" : Str), ("isinstance" : Str), ("int" : Str), ("str" : Str), ("max" : Str), ("min" : Str), ("enumerate" : Str), ("bool" : Str)]
  mth := ([(("Reading" : Str), ("_is_right" : Str), F.f_Reading_is_right), (("Reading" : Str), ("fault" : Str), F.f_Reading_fault)] : List (Str × Str × Lw.F))
  ini := ([(("Reading" : Str), F.f_Reading_init)] : List (Str × Lw.F))
  exs := ["PathError", "BadBox", "BadNames", "BadAtoms", "BadForms", "BadRefutation"]
  exm := []
  nat := ([(("Reading" : Str), ("bounds" : Str)), (("Reading" : Str), ("atoms" : Str))] : List (Str × Str))
  at_ := atF
  ps := psF
  tbs := ([(("STEPS" : Str), t_STEPS)] : List (Str × List (Str × D)))
def nF : F → Nat
  | .f_is_whole => 3
  | .f_ascends => 3
  | .f_is_name => 2
  | .f_is_integer => 1
  | .f_is_form => 2
  | .f_constant => 1
  | .f_named => 1
  | .f_combined => 8
  | .f_names_by => 3
  | .f_put_by => 5
  | .f_divisor => 2
  | .f_normal_of => 5
  | .f_is_atom => 1
  | .f_best_of => 7
  | .f_check_names => 3
  | .f__check_box => 5
  | .f_check_over => 5
  | .f_bounds_by => 3
  | .f_sum_of => 5
  | .f__are_pairs => 3
  | .f__is_step => 6
  | .f__is_paper => 4
  | .f_pushed_bounds => 8
  | .f_beyond => 8
  | .f_is_better => 5
  | .f_is_never => 3
  | .f_halves => 11
  | .f_Reading_init => 3
  | .f_Reading_is_right => 11
  | .f_Reading_fault => 9
  | .f_fault_by => 5
  | .f_refutation_fault => 4
  | .f_are_sums => 2
  | .f__scale => 5
  | .f__called => 11
  | .f_refutation_called => 8
  | .f__law_draws => 7
  | .f__law_put => 9
  | .f__law_divisor => 2
  | .f__law_normal => 4
  | .f__law_atoms => 7
  | .f__law_form => 3
  | .f__law_scale => 4
  | .f__law_due => 10
  | .f_law => 9
end Lw
namespace Lw
open PySem PySem.Spec PyProof.Rows L2 Dq
/-- slots: 0 value, 1 least, 2 most -/
noncomputable def b_is_whole : Sv G :=
  (sRet (eAnd (o1 (vIsi "int") (eVar 0)) (eAnd (eNotV (o1 (vIsi "bool") (eVar 0))) (eChain vLe vLe (eVar 1) (eVar 0) (eVar 2)))))
theorem sc_is_whole : FnScope ["value", "least", "most"] ["value", "least", "most"] (defScope s_is_whole) := ⟨rfl, rfl, rfl, by decide +kernel, rfl, by decide +kernel, by decide +kernel⟩
theorem ok_is_whole : DSs G (fnS ["value", "least", "most"] (defScope s_is_whole)) (defBody s_is_whole) b_is_whole :=
  (dss_one (ds_ret (d_and (d_isi "int" (d_var 0)) (d_and (d_notV (d_isi "bool" (d_var 0))) (d_one (d_chain h_le h_le (d_var 1) (d_var 0) (d_var 2)))))))
/-- slots: 0 values, 1 one, 2 later -/
noncomputable def b_ascends : Sv G :=
  (sRet (eB cAll (aCons (eLc (iZipD (aCons (eVar 0) (aCons (eSl (eVar 0) (pSo (eC (.int 1))) pNo) aNil))) (gTupG 2 (gConsG (gVar 1) (gConsG (gVar 2) gNilG))) qYes (o2 vLt (eVar 1) (eVar 2)) [1, 2]) aNil)))
theorem sc_ascends : FnScope ["values", "one", "later"] ["values"] (defScope s_ascends) := ⟨rfl, rfl, rfl, by decide +kernel, rfl, by decide +kernel, by decide +kernel⟩
theorem ok_ascends : DSs G (fnS ["values", "one", "later"] (defScope s_ascends)) (defBody s_ascends) b_ascends :=
  (dss_one (ds_ret (d_blt h_all PyProof.Rows.boot_all (da_cons (d_lc [("one", 1), ("later", 2)] (di_zip (da_cons (d_var 0) (da_cons (d_sl (d_var 0) (dp_so d_int) dp_no) da_nil))) (dg_tup (dgs_cons (dg_var 1) (dgs_cons (dg_var 2) dgs_nil))) dts_nil (d_cmp h_lt (d_var 1) (d_var 2))) da_nil))))
/-- slots: 0 value, 1 sign -/
noncomputable def b_is_name : Sv G :=
  (sSeq (sT (qOr (qNot (qTru (o1 (vIsi "str") (eVar 0)))) (qOr (qNot (qVal (eChain vLe vLe (eC (.int 1)) (eB cLen (aCons (eVar 0) aNil)) (eC c_MOST_NAME)))) (qVal (o2 vIn (eVar 0) (eC c_KEPT))))) (sRet (eC (.bl false))) sNext)
    (sRet (eB cAll (aCons (eLc (iSeq (eVar 0)) (gVar 1) qYes (o2 vIn (eVar 1) (eC c_LETTERS)) [1]) aNil))))
theorem sc_is_name : FnScope ["value", "sign"] ["value"] (defScope s_is_name) := ⟨rfl, rfl, rfl, by decide +kernel, rfl, by decide +kernel, by decide +kernel⟩
theorem ok_is_name : DSs G (fnS ["value", "sign"] (defScope s_is_name)) (defBody s_is_name) b_is_name :=
  (dss_cons (ds_if (dt_w (dw_or (dt_not (dt_tru (d_isi "str" (d_var 0)))) (dw_or (dt_not (dt_chain h_le h_le d_int (d_blt h_len PySem.boot_len (da_cons (d_var 0) da_nil)) (d_cn (List.mem_of_getElem? (i := 2) rfl)))) (dw_or1 (dt_cmp h_in (d_var 0) (d_cn (List.mem_of_getElem? (i := 1) rfl))))))) (dss_one (ds_ret d_bl)) dss_nil)
    (dss_one (ds_ret (d_blt h_all PyProof.Rows.boot_all (da_cons (d_lc [("sign", 1)] (di_seq (d_var 0)) (dg_var 1) dts_nil (d_cmp h_in (d_var 1) (d_cn (List.mem_of_getElem? (i := 0) rfl)))) da_nil)))))
/-- slots: 0 value -/
noncomputable def b_is_integer : Sv G :=
  (sRet (eAnd (o1 (vIsi "int") (eVar 0)) (eNotV (o1 (vIsi "bool") (eVar 0)))))
theorem sc_is_integer : FnScope ["value"] ["value"] (defScope s_is_integer) := ⟨rfl, rfl, rfl, by decide +kernel, rfl, by decide +kernel, by decide +kernel⟩
theorem ok_is_integer : DSs G (fnS ["value"] (defScope s_is_integer)) (defBody s_is_integer) b_is_integer :=
  (dss_one (ds_ret (d_and (d_isi "int" (d_var 0)) (d_one (d_notV (d_isi "bool" (d_var 0)))))))
/-- slots: 0 value, 1 one -/
noncomputable def b_is_form : Sv G :=
  (sSeq (sT (qGc (qOr (qNot (qTru (o1 (vIsi "tuple") (eVar 0)))) (qOr (qVal (o2 vNe (eB cLen (aCons (eVar 0) aNil)) (eC (.int 2)))) (qNot (qTru (eFn (G := G) .f_is_integer (aCons (o2 vIx (eVar 0) (eC (.int 0))) aNil))))))) (sRet (eC (.bl false))) sNext)
    (sSeq (sT (qOr (qNot (qTru (o1 (vIsi "tuple") (o2 vIx (eVar 0) (eC (.int 1)))))) (qVal (o2 vGt (eB cLen (aCons (o2 vIx (eVar 0) (eC (.int 1))) aNil)) (eC c_MOST_PARTS)))) (sRet (eC (.bl false))) sNext)
    (sSeq (sT (qGc (qNot (qTru (eGc (eB cAll (aCons (eLc (iSeq (o2 vIx (eVar 0) (eC (.int 1)))) (gVar 1) qYes (eAnd (o1 (vIsi "tuple") (eVar 1)) (o2 vEq (eB cLen (aCons (eVar 1) aNil)) (eC (.int 2)))) [1]) aNil)))))) (sRet (eC (.bl false))) sNext)
    (sSeq (sT (qGc (qNot (qTru (eGc (eB cAll (aCons (eLc (iSeq (o2 vIx (eVar 0) (eC (.int 1)))) (gVar 1) qYes (eGc (eAnd (eFn (G := G) .f_is_name (aCons (o2 vIx (eVar 1) (eC (.int 0))) aNil)) (eAnd (eFn (G := G) .f_is_integer (aCons (o2 vIx (eVar 1) (eC (.int 1))) aNil)) (o2 vNe (o2 vIx (eVar 1) (eC (.int 1))) (eC (.int 0)))))) [1]) aNil)))))) (sRet (eC (.bl false))) sNext)
    (sRet (eFn (G := G) .f_ascends (aCons (eLc (iSeq (o2 vIx (eVar 0) (eC (.int 1)))) (gVar 1) qYes (o2 vIx (eVar 1) (eC (.int 0))) [1]) aNil)))))))
theorem sc_is_form : FnScope ["value", "one"] ["value"] (defScope s_is_form) := ⟨rfl, rfl, rfl, by decide +kernel, rfl, by decide +kernel, by decide +kernel⟩
theorem ok_is_form : DSs G (fnS ["value", "one"] (defScope s_is_form)) (defBody s_is_form) b_is_form :=
  (dss_cons (ds_if (dt_gc (dt_w (dw_or (dt_not (dt_tru (d_isi "tuple" (d_var 0)))) (dw_or (dt_cmp h_ne (d_blt h_len PySem.boot_len (da_cons (d_var 0) da_nil)) d_int) (dw_or1 (dt_not (dt_tru (d_fn 3 (da_cons (d_ix (d_var 0) d_int) da_nil))))))))) (dss_one (ds_ret d_bl)) dss_nil)
    (dss_cons (ds_if (dt_w (dw_or (dt_not (dt_tru (d_isi "tuple" (d_ix (d_var 0) d_int)))) (dw_or1 (dt_cmp h_gt (d_blt h_len PySem.boot_len (da_cons (d_ix (d_var 0) d_int) da_nil)) (d_cn (List.mem_of_getElem? (i := 4) rfl)))))) (dss_one (ds_ret d_bl)) dss_nil)
    (dss_cons (ds_if (dt_gc (dt_not (dt_tru (d_gc (d_blt h_all PyProof.Rows.boot_all (da_cons (d_lc [("one", 1)] (di_seq (d_ix (d_var 0) d_int)) (dg_var 1) dts_nil (d_and (d_isi "tuple" (d_var 1)) (d_one (d_cmp h_eq (d_blt h_len PySem.boot_len (da_cons (d_var 1) da_nil)) d_int)))) da_nil)))))) (dss_one (ds_ret d_bl)) dss_nil)
    (dss_cons (ds_if (dt_gc (dt_not (dt_tru (d_gc (d_blt h_all PyProof.Rows.boot_all (da_cons (d_lc [("one", 1)] (di_seq (d_ix (d_var 0) d_int)) (dg_var 1) dts_nil (d_gc (d_and (d_fn 2 (da_cons (d_ix (d_var 1) d_int) da_nil)) (d_and (d_fn 3 (da_cons (d_ix (d_var 1) d_int) da_nil)) (d_one (d_cmp h_ne (d_ix (d_var 1) d_int) d_int)))))) da_nil)))))) (dss_one (ds_ret d_bl)) dss_nil)
    (dss_one (ds_ret (d_fn 1 (da_cons (d_lc [("one", 1)] (di_seq (d_ix (d_var 0) d_int)) (dg_var 1) dts_nil (d_ix (d_var 1) d_int)) da_nil))))))))
/-- slots: 0 number -/
noncomputable def b_constant : Sv G :=
  (sRet (eTup (aCons (eVar 0) (aCons (eTup aNil) aNil))))
theorem sc_constant : FnScope ["number"] ["number"] (defScope s_constant) := ⟨rfl, rfl, rfl, by decide +kernel, rfl, by decide +kernel, by decide +kernel⟩
theorem ok_constant : DSs G (fnS ["number"] (defScope s_constant)) (defBody s_constant) b_constant :=
  (dss_one (ds_ret (d_tup (da_cons (d_var 0) (da_cons (d_tup da_nil) da_nil)))))
/-- slots: 0 name -/
noncomputable def b_named : Sv G :=
  (sRet (eTup (aCons (eC (.int 0)) (aCons (eTup (aCons (eTup (aCons (eVar 0) (aCons (eC (.int 1)) aNil))) aNil)) aNil))))
theorem sc_named : FnScope ["name"] ["name"] (defScope s_named) := ⟨rfl, rfl, rfl, by decide +kernel, rfl, by decide +kernel, by decide +kernel⟩
theorem ok_named : DSs G (fnS ["name"] (defScope s_named)) (defBody s_named) b_named :=
  (dss_one (ds_ret (d_tup (da_cons d_int (da_cons (d_tup (da_cons (d_tup (da_cons (d_var 0) (da_cons d_int da_nil))) da_nil)) da_nil)))))
/-- slots: 0 number, 1 form, 2 factor, 3 other, 4 parts, 5 name, 6 own, 7 found -/
noncomputable def b_combined : Sv G :=
  (sSeq (sSet (eGc (eDc (iSeq (o2 vIx (eVar 1) (eC (.int 1)))) (gTupG 2 (gConsG (gVar 5) (gConsG (gVar 6) gNilG))) qYes (eVar 5) (o2 vMul (eVar 0) (eVar 6)) [5, 6])) (gVar 4))
    (sSeq (sFor (iSeq (o2 vIx (eVar 3) (eC (.int 1)))) (gTupG 2 (gConsG (gVar 5) (gConsG (gVar 6) gNilG))) (sPut (o2 vAdd (oM isDic kGet2 (eVar 4) (aCons (eVar 5) (aCons (eC (.int 0)) aNil))) (o2 vMul (eVar 2) (eVar 6))) (eVar 4) (eVar 5)))
    (sSeq (sSet (eGc (eB cTuple (aCons (eLc (iSeq (eB cSorted (aCons (eVar 4) aNil))) (gVar 5) (qVal (o2 vNe (o2 vIx (eVar 4) (eVar 5)) (eC (.int 0)))) (eTup (aCons (eVar 5) (aCons (o2 vIx (eVar 4) (eVar 5)) aNil))) [5]) aNil))) (gVar 7))
    (sRet (eTup (aCons (o2 vAdd (o2 vMul (eVar 0) (o2 vIx (eVar 1) (eC (.int 0)))) (o2 vMul (eVar 2) (o2 vIx (eVar 3) (eC (.int 0))))) (aCons (eVar 7) aNil)))))))
theorem sc_combined : FnScope ["number", "form", "factor", "other", "parts", "name", "own", "found"] ["number", "form", "factor", "other"] (defScope s_combined) := ⟨rfl, rfl, rfl, by decide +kernel, rfl, by decide +kernel, by decide +kernel⟩
theorem ok_combined : DSs G (fnS ["number", "form", "factor", "other", "parts", "name", "own", "found"] (defScope s_combined)) (defBody s_combined) b_combined :=
  (dss_cons (ds_set 4 (d_gc (d_dc [("name", 5), ("own", 6)] (di_seq (d_ix (d_var 1) d_int)) (dg_tup (dgs_cons (dg_var 5) (dgs_cons (dg_var 6) dgs_nil))) dts_nil (d_var 5) (d_op h_mul (d_var 0) (d_var 6)))))
    (dss_cons (ds_for (di_seq (d_ix (d_var 3) d_int)) (dg_tup (dgs_cons (dg_var 5) (dgs_cons (dg_var 6) dgs_nil))) (dss_one (ds_put (d_op h_add (d_get2 (d_var 4) (d_var 5) d_int) (d_op h_mul (d_var 2) (d_var 6))) (d_var 4) (d_var 5))))
    (dss_cons (ds_set 7 (d_gc (d_ty h_tuple PyProof.Rows.boot_tuple (da_cons (d_lc [("name", 5)] (di_seq (d_blt h_sorted PyProof.Rows.boot_sorted (da_cons (d_var 4) da_nil))) (dg_var 5) (dts_one (dt_cmp h_ne (d_ix (d_var 4) (d_var 5)) d_int)) (d_tup (da_cons (d_var 5) (da_cons (d_ix (d_var 4) (d_var 5)) da_nil)))) da_nil))))
    (dss_one (ds_ret (d_tup (da_cons (d_op h_add (d_op h_mul (d_var 0) (d_ix (d_var 1) d_int)) (d_op h_mul (d_var 2) (d_ix (d_var 3) d_int))) (da_cons (d_var 7) da_nil))))))))
/-- slots: 0 form, 1 name, 2 _factor -/
noncomputable def b_names_by : Sv G :=
  (sRet (eLc (iSeq (o2 vIx (eVar 0) (eC (.int 1)))) (gTupG 2 (gConsG (gVar 1) (gConsG (gVar 2) gNilG))) qYes (eVar 1) [1, 2]))
theorem sc_names_by : FnScope ["form", "name", "_factor"] ["form"] (defScope s_names_by) := ⟨rfl, rfl, rfl, by decide +kernel, rfl, by decide +kernel, by decide +kernel⟩
theorem ok_names_by : DSs G (fnS ["form", "name", "_factor"] (defScope s_names_by)) (defBody s_names_by) b_names_by :=
  (dss_one (ds_ret (d_lc [("name", 1), ("_factor", 2)] (di_seq (d_ix (d_var 0) d_int)) (dg_tup (dgs_cons (dg_var 1) (dgs_cons (dg_var 2) dgs_nil))) dts_nil (d_var 1))))
/-- slots: 0 form, 1 forms, 2 found, 3 name, 4 factor -/
noncomputable def b_put_by : Sv G :=
  (sSeq (sSet (eFn (G := G) .f_constant (aCons (o2 vIx (eVar 0) (eC (.int 0))) aNil)) (gVar 2))
    (sSeq (sFor (iSeq (o2 vIx (eVar 0) (eC (.int 1)))) (gTupG 2 (gConsG (gVar 3) (gConsG (gVar 4) gNilG))) (sSet (eGc (eFn (G := G) .f_combined (aCons (eC (.int 1)) (aCons (eVar 2) (aCons (eVar 4) (aCons (oM isDic kGet2 (eVar 1) (aCons (eVar 3) (aCons (eFn (G := G) .f_named (aCons (eVar 3) aNil)) aNil))) aNil)))))) (gVar 2)))
    (sRet (eVar 2))))
theorem sc_put_by : FnScope ["form", "forms", "found", "name", "factor"] ["form", "forms"] (defScope s_put_by) := ⟨rfl, rfl, rfl, by decide +kernel, rfl, by decide +kernel, by decide +kernel⟩
theorem ok_put_by : DSs G (fnS ["form", "forms", "found", "name", "factor"] (defScope s_put_by)) (defBody s_put_by) b_put_by :=
  (dss_cons (ds_set 2 (d_fn 5 (da_cons (d_ix (d_var 0) d_int) da_nil)))
    (dss_cons (ds_for (di_seq (d_ix (d_var 0) d_int)) (dg_tup (dgs_cons (dg_var 3) (dgs_cons (dg_var 4) dgs_nil))) (dss_one (ds_set 2 (d_gc (d_fn 7 (da_cons d_int (da_cons (d_var 2) (da_cons (d_var 4) (da_cons (d_get2 (d_var 1) (d_var 3) (d_fn 6 (da_cons (d_var 3) da_nil))) da_nil)))))))))
    (dss_one (ds_ret (d_var 2)))))
/-- slots: 0 one, 1 other -/
noncomputable def b_divisor : Sv G :=
  (sSeq (sPar (aCons (eB cAbs (aCons (eVar 0) aNil)) (aCons (eB cAbs (aCons (eVar 1) aNil)) aNil)) [0, 1])
    (sSeq (sWhile (qVal (o2 vGt (eVar 1) (eC (.int 0)))) (sPar (aCons (eVar 1) (aCons (o2 vMod (eVar 0) (eVar 1)) aNil)) [0, 1]))
    (sRet (eVar 0))))
theorem sc_divisor : FnScope ["one", "other"] ["one", "other"] (defScope s_divisor) := ⟨rfl, rfl, rfl, by decide +kernel, rfl, by decide +kernel, by decide +kernel⟩
theorem ok_divisor : DSs G (fnS ["one", "other"] (defScope s_divisor)) (defBody s_divisor) b_divisor :=
  (dss_cons (ds_par 0 1 (da_cons (d_blt h_abs PyProof.Rows.boot_abs (da_cons (d_var 0) da_nil)) (da_cons (d_blt h_abs PyProof.Rows.boot_abs (da_cons (d_var 1) da_nil)) da_nil)))
    (dss_cons (ds_while (dt_cmp h_gt (d_var 1) d_int) (dss_one (ds_par 0 1 (da_cons (d_var 1) (da_cons (d_op h_mod (d_var 0) (d_var 1)) da_nil)))))
    (dss_one (ds_ret (d_var 0)))))
/-- slots: 0 form, 1 size, 2 _name, 3 factor, 4 name -/
noncomputable def b_normal_of : Sv G :=
  (sSeq (sSet (eC (.int 0)) (gVar 1))
    (sSeq (sFor (iSeq (o2 vIx (eVar 0) (eC (.int 1)))) (gTupG 2 (gConsG (gVar 2) (gConsG (gVar 3) gNilG))) (sSet (eFn (G := G) .f_divisor (aCons (eVar 1) (aCons (eVar 3) aNil))) (gVar 1)))
    (sSeq (sT (qVal (o2 vEq (eVar 1) (eC (.int 0)))) (sRet (eIf (qVal (o2 vGe (o2 vIx (eVar 0) (eC (.int 0))) (eC (.int 0)))) (eC c_TRUE) (eC c_NEVER))) sNext)
    (sRet (eTup (aCons (eC c_LEAST) (aCons (eTup (aCons (o2 vDiv (o2 vIx (eVar 0) (eC (.int 0))) (eVar 1)) (aCons (eB cTuple (aCons (eLc (iSeq (o2 vIx (eVar 0) (eC (.int 1)))) (gTupG 2 (gConsG (gVar 4) (gConsG (gVar 3) gNilG))) qYes (eTup (aCons (eVar 4) (aCons (o2 vDiv (eVar 3) (eVar 1)) aNil))) [4, 3]) aNil)) aNil))) aNil)))))))
theorem sc_normal_of : FnScope ["form", "size", "_name", "factor", "name"] ["form"] (defScope s_normal_of) := ⟨rfl, rfl, rfl, by decide +kernel, rfl, by decide +kernel, by decide +kernel⟩
theorem ok_normal_of : DSs G (fnS ["form", "size", "_name", "factor", "name"] (defScope s_normal_of)) (defBody s_normal_of) b_normal_of :=
  (dss_cons (ds_set 1 d_int)
    (dss_cons (ds_for (di_seq (d_ix (d_var 0) d_int)) (dg_tup (dgs_cons (dg_var 2) (dgs_cons (dg_var 3) dgs_nil))) (dss_one (ds_set 1 (d_fn 10 (da_cons (d_var 1) (da_cons (d_var 3) da_nil))))))
    (dss_cons (ds_if (dt_cmp h_eq (d_var 1) d_int) (dss_one (ds_ret (d_if (dt_cmp h_ge (d_ix (d_var 0) d_int) d_int) (d_cn (List.mem_of_getElem? (i := 7) rfl)) (d_cn (List.mem_of_getElem? (i := 8) rfl))))) dss_nil)
    (dss_one (ds_ret (d_tup (da_cons (d_cn (List.mem_of_getElem? (i := 5) rfl)) (da_cons (d_tup (da_cons (d_op h_div (d_ix (d_var 0) d_int) (d_var 1)) (da_cons (d_ty h_tuple PyProof.Rows.boot_tuple (da_cons (d_lc [("name", 4), ("factor", 3)] (di_seq (d_ix (d_var 0) d_int)) (dg_tup (dgs_cons (dg_var 4) (dgs_cons (dg_var 3) dgs_nil))) dts_nil (d_tup (da_cons (d_var 4) (da_cons (d_op h_div (d_var 3) (d_var 1)) da_nil)))) da_nil)) da_nil))) da_nil))))))))
/-- slots: 0 value -/
noncomputable def b_is_atom : Sv G :=
  (sSeq (sT (qOr (qNot (qTru (o1 (vIsi "tuple") (eVar 0)))) (qOr (qVal (o2 vNe (eB cLen (aCons (eVar 0) aNil)) (eC (.int 2)))) (qOr (qNot (qTru (o1 (vIsi "str") (o2 vIx (eVar 0) (eC (.int 0)))))) (qVal (o2 vNe (o2 vIx (eVar 0) (eC (.int 0))) (eC c_LEAST)))))) (sRet (eC (.bl false))) sNext)
    (sRet (eFn (G := G) .f_is_form (aCons (o2 vIx (eVar 0) (eC (.int 1))) aNil))))
theorem sc_is_atom : FnScope ["value"] ["value"] (defScope s_is_atom) := ⟨rfl, rfl, rfl, by decide +kernel, rfl, by decide +kernel, by decide +kernel⟩
theorem ok_is_atom : DSs G (fnS ["value"] (defScope s_is_atom)) (defBody s_is_atom) b_is_atom :=
  (dss_cons (ds_if (dt_w (dw_or (dt_not (dt_tru (d_isi "tuple" (d_var 0)))) (dw_or (dt_cmp h_ne (d_blt h_len PySem.boot_len (da_cons (d_var 0) da_nil)) d_int) (dw_or (dt_not (dt_tru (d_isi "str" (d_ix (d_var 0) d_int)))) (dw_or1 (dt_cmp h_ne (d_ix (d_var 0) d_int) (d_cn (List.mem_of_getElem? (i := 5) rfl)))))))) (dss_one (ds_ret d_bl)) dss_nil)
    (dss_one (ds_ret (d_fn 4 (da_cons (d_ix (d_var 0) d_int) da_nil)))))
/-- slots: 0 form, 1 bounds, 2 is_least, 3 found, 4 name, 5 factor, 6 side -/
noncomputable def b_best_of : Sv G :=
  (sSeq (sSet (o2 vIx (eVar 0) (eC (.int 0))) (gVar 3))
    (sSeq (sFor (iSeq (o2 vIx (eVar 0) (eC (.int 1)))) (gTupG 2 (gConsG (gVar 4) (gConsG (gVar 5) gNilG))) (sSeq (sSet (o2 vIx (o2 vIx (eVar 1) (eVar 4)) (eIf (qVal (o2 vEq (o2 vGt (eVar 5) (eC (.int 0))) (eVar 2))) (eC (.int 0)) (eC (.int 1)))) (gVar 6))
    (sSeq (sT (qVal (o2 vIsN (eVar 6) (eC .non))) (sRet (eC .non)) sNext)
    (sAug 3 vIAdd (o2 vMul (eVar 5) (eVar 6))))))
    (sRet (eVar 3))))
theorem sc_best_of : FnScope ["form", "bounds", "is_least", "found", "name", "factor", "side"] ["form", "bounds", "is_least"] (defScope s_best_of) := ⟨rfl, rfl, rfl, by decide +kernel, rfl, by decide +kernel, by decide +kernel⟩
theorem ok_best_of : DSs G (fnS ["form", "bounds", "is_least", "found", "name", "factor", "side"] (defScope s_best_of)) (defBody s_best_of) b_best_of :=
  (dss_cons (ds_set 3 (d_ix (d_var 0) d_int))
    (dss_cons (ds_for (di_seq (d_ix (d_var 0) d_int)) (dg_tup (dgs_cons (dg_var 4) (dgs_cons (dg_var 5) dgs_nil))) (dss_cons (ds_set 6 (d_ix (d_ix (d_var 1) (d_var 4)) (d_if (dt_cmp h_eq (d_cmp h_gt (d_var 5) d_int) (d_var 2)) d_int d_int)))
    (dss_cons (ds_if (dt_cmp h_is (d_var 6) d_non) (dss_one (ds_ret d_non)) dss_nil)
    (dss_one (ds_aug 3 (fun _ _ _ _ _ => ok_iadd) (d_op h_mul (d_var 5) (d_var 6)))))))
    (dss_one (ds_ret (d_var 3)))))
/-- slots: 0 names, 1 one, 2 name -/
noncomputable def b_check_names : Sv G :=
  (sSeq (sT (qGc (qOr (qNot (qTru (o1 (vIsi "tuple") (eVar 0)))) (qOr (qVal (o2 vGt (eB cLen (aCons (eVar 0) aNil)) (eC c_MOST_NAMES))) (qNot (qTru (eGc (eB cAll (aCons (eLc (iSeq (eVar 0)) (gVar 1) qYes (eFn (G := G) .f_is_name (aCons (eVar 1) aNil)) [1]) aNil)))))))) (sRaise "BadNames") sNext)
    (sT (qGc (qVal (o2 vNe (eB cLen (aCons (eDc (iSeq (eVar 0)) (gVar 2) qYes (eVar 2) (eC (.bl true)) [2]) aNil)) (eB cLen (aCons (eVar 0) aNil))))) (sRaise "BadNames") sNext))
theorem sc_check_names : FnScope ["names", "one", "name"] ["names"] (defScope s_check_names) := ⟨rfl, rfl, rfl, by decide +kernel, rfl, by decide +kernel, by decide +kernel⟩
theorem ok_check_names : DSs G (fnS ["names", "one", "name"] (defScope s_check_names)) (defBody s_check_names) b_check_names :=
  (dss_cons (ds_if (dt_gc (dt_w (dw_or (dt_not (dt_tru (d_isi "tuple" (d_var 0)))) (dw_or (dt_cmp h_gt (d_blt h_len PySem.boot_len (da_cons (d_var 0) da_nil)) (d_cn (List.mem_of_getElem? (i := 9) rfl))) (dw_or1 (dt_not (dt_tru (d_gc (d_blt h_all PyProof.Rows.boot_all (da_cons (d_lc [("one", 1)] (di_seq (d_var 0)) (dg_var 1) dts_nil (d_fn 2 (da_cons (d_var 1) da_nil))) da_nil)))))))))) (dss_one ds_raise) dss_nil)
    (dss_one (ds_if (dt_gc (dt_cmp h_ne (d_blt h_len PySem.boot_len (da_cons (d_dc [("name", 2)] (di_seq (d_var 0)) (dg_var 2) dts_nil (d_var 2) d_bl) da_nil)) (d_blt h_len PySem.boot_len (da_cons (d_var 0) da_nil)))) (dss_one ds_raise) dss_nil)))
/-- slots: 0 names, 1 box, 2 least, 3 greatest, 4 one -/
noncomputable def b__check_box : Sv G :=
  (sSeq (sT (qOr (qNot (qTru (o1 (vIsi "tuple") (eVar 1)))) (qVal (o2 vNe (eB cLen (aCons (eVar 1) aNil)) (eB cLen (aCons (eVar 0) aNil))))) (sRaise "BadBox") sNext)
    (sSeq (sT (qGc (qNot (qTru (eGc (eB cAll (aCons (eLc (iSeq (eVar 1)) (gVar 4) qYes (eAnd (o1 (vIsi "tuple") (eVar 4)) (o2 vEq (eB cLen (aCons (eVar 4) aNil)) (eC (.int 2)))) [4]) aNil)))))) (sRaise "BadBox") sNext)
    (sFor (iSeq (eVar 1)) (gTupG 2 (gConsG (gVar 2) (gConsG (gVar 3) gNilG))) (sT (qGc (qOr (qNot (qTru (eFn (G := G) .f_is_whole (aCons (eVar 2) (aCons (o2 vSub (eC (.int 0)) (eC c_MOST_SIDE)) (aCons (eC c_MOST_SIDE) aNil)))))) (qNot (qTru (eFn (G := G) .f_is_whole (aCons (eVar 3) (aCons (eVar 2) (aCons (eC c_MOST_SIDE) aNil)))))))) (sRaise "BadBox") sNext))))
theorem sc__check_box : FnScope ["names", "box", "least", "greatest", "one"] ["names", "box"] (defScope s__check_box) := ⟨rfl, rfl, rfl, by decide +kernel, rfl, by decide +kernel, by decide +kernel⟩
theorem ok__check_box : DSs G (fnS ["names", "box", "least", "greatest", "one"] (defScope s__check_box)) (defBody s__check_box) b__check_box :=
  (dss_cons (ds_if (dt_w (dw_or (dt_not (dt_tru (d_isi "tuple" (d_var 1)))) (dw_or1 (dt_cmp h_ne (d_blt h_len PySem.boot_len (da_cons (d_var 1) da_nil)) (d_blt h_len PySem.boot_len (da_cons (d_var 0) da_nil)))))) (dss_one ds_raise) dss_nil)
    (dss_cons (ds_if (dt_gc (dt_not (dt_tru (d_gc (d_blt h_all PyProof.Rows.boot_all (da_cons (d_lc [("one", 4)] (di_seq (d_var 1)) (dg_var 4) dts_nil (d_and (d_isi "tuple" (d_var 4)) (d_one (d_cmp h_eq (d_blt h_len PySem.boot_len (da_cons (d_var 4) da_nil)) d_int)))) da_nil)))))) (dss_one ds_raise) dss_nil)
    (dss_one (ds_for (di_seq (d_var 1)) (dg_tup (dgs_cons (dg_var 2) (dgs_cons (dg_var 3) dgs_nil))) (dss_one (ds_if (dt_gc (dt_w (dw_or (dt_not (dt_tru (d_fn 0 (da_cons (d_var 2) (da_cons (d_op h_sub d_int (d_cn (List.mem_of_getElem? (i := 11) rfl))) (da_cons (d_cn (List.mem_of_getElem? (i := 11) rfl)) da_nil)))))) (dw_or1 (dt_not (dt_tru (d_fn 0 (da_cons (d_var 3) (da_cons (d_var 2) (da_cons (d_cn (List.mem_of_getElem? (i := 11) rfl)) da_nil)))))))))) (dss_one ds_raise) dss_nil))))))
/-- slots: 0 names, 1 atoms, 2 one, 3 atom, 4 name -/
noncomputable def b_check_over : Sv G :=
  (sSeq (sT (qGc (qOr (qNot (qTru (o1 (vIsi "tuple") (eVar 1)))) (qOr (qVal (o2 vGt (eB cLen (aCons (eVar 1) aNil)) (eC c_MOST_ATOMS))) (qNot (qTru (eGc (eB cAll (aCons (eLc (iSeq (eVar 1)) (gVar 2) qYes (eFn (G := G) .f_is_atom (aCons (eVar 2) aNil)) [2]) aNil)))))))) (sRaise "BadAtoms") sNext)
    (sT (qGc (qNot (qTru (eGc (eB cAll (aCons (eLc2 (iSeq (eVar 1)) (gVar 3) qYes (iSeq (eFn (G := G) .f_names_by (aCons (o2 vIx (eVar 3) (eC (.int 1))) aNil))) (gVar 4) qYes (o2 vIn (eVar 4) (eVar 0)) [3, 4] [4]) aNil)))))) (sRaise "BadAtoms") sNext))
theorem sc_check_over : FnScope ["names", "atoms", "one", "atom", "name"] ["names", "atoms"] (defScope s_check_over) := ⟨rfl, rfl, rfl, by decide +kernel, rfl, by decide +kernel, by decide +kernel⟩
theorem ok_check_over : DSs G (fnS ["names", "atoms", "one", "atom", "name"] (defScope s_check_over)) (defBody s_check_over) b_check_over :=
  (dss_cons (ds_if (dt_gc (dt_w (dw_or (dt_not (dt_tru (d_isi "tuple" (d_var 1)))) (dw_or (dt_cmp h_gt (d_blt h_len PySem.boot_len (da_cons (d_var 1) da_nil)) (d_cn (List.mem_of_getElem? (i := 10) rfl))) (dw_or1 (dt_not (dt_tru (d_gc (d_blt h_all PyProof.Rows.boot_all (da_cons (d_lc [("one", 2)] (di_seq (d_var 1)) (dg_var 2) dts_nil (d_fn 12 (da_cons (d_var 2) da_nil))) da_nil)))))))))) (dss_one ds_raise) dss_nil)
    (dss_one (ds_if (dt_gc (dt_not (dt_tru (d_gc (d_blt h_all PyProof.Rows.boot_all (da_cons (d_lc2 [("atom", 3), ("name", 4)] [4] (di_seq (d_var 1)) (dg_var 3) dts_nil (di_seq (d_fn 8 (da_cons (d_ix (d_var 3) d_int) da_nil))) (dg_var 4) dts_nil (d_cmp h_in (d_var 4) (d_var 0))) da_nil)))))) (dss_one ds_raise) dss_nil)))
/-- slots: 0 names, 1 box, 2 name -/
noncomputable def b_bounds_by : Sv G :=
  (sSeq (sT (qVal (o2 vIsN (eVar 1) (eC .non))) (sRet (eDc (iSeq (eVar 0)) (gVar 2) qYes (eVar 2) (eTup (aCons (eC .non) (aCons (eC .non) aNil))) [2])) sNext)
    (sRet (eB cDict (aCons (eListZip (aCons (eVar 0) (aCons (eVar 1) aNil))) aNil))))
theorem sc_bounds_by : FnScope ["names", "box", "name"] ["names", "box"] (defScope s_bounds_by) := ⟨rfl, rfl, rfl, by decide +kernel, rfl, by decide +kernel, by decide +kernel⟩
theorem ok_bounds_by : DSs G (fnS ["names", "box", "name"] (defScope s_bounds_by)) (defBody s_bounds_by) b_bounds_by :=
  (dss_cons (ds_if (dt_cmp h_is (d_var 1) d_non) (dss_one (ds_ret (d_dc [("name", 2)] (di_seq (d_var 0)) (dg_var 2) dts_nil (d_var 2) (d_tup (da_cons d_non (da_cons d_non da_nil)))))) dss_nil)
    (dss_one (ds_ret (d_ty h_dict PyProof.Rows.boot_dict (da_cons (d_listZip (da_cons (d_var 0) (da_cons (d_var 1) da_nil))) da_nil)))))
/-- slots: 0 atoms, 1 pairs, 2 found, 3 number, 4 factor -/
noncomputable def b_sum_of : Sv G :=
  (sSeq (sSet (eFn (G := G) .f_constant (aCons (eC (.int 0)) aNil)) (gVar 2))
    (sSeq (sFor (iSeq (eVar 1)) (gTupG 2 (gConsG (gVar 3) (gConsG (gVar 4) gNilG))) (sSet (eFn (G := G) .f_combined (aCons (eC (.int 1)) (aCons (eVar 2) (aCons (eVar 4) (aCons (o2 vIx (o2 vIx (eVar 0) (eVar 3)) (eC (.int 1))) aNil))))) (gVar 2)))
    (sRet (eFn (G := G) .f_normal_of (aCons (eVar 2) aNil)))))
theorem sc_sum_of : FnScope ["atoms", "pairs", "found", "number", "factor"] ["atoms", "pairs"] (defScope s_sum_of) := ⟨rfl, rfl, rfl, by decide +kernel, rfl, by decide +kernel, by decide +kernel⟩
theorem ok_sum_of : DSs G (fnS ["atoms", "pairs", "found", "number", "factor"] (defScope s_sum_of)) (defBody s_sum_of) b_sum_of :=
  (dss_cons (ds_set 2 (d_fn 5 (da_cons d_int da_nil)))
    (dss_cons (ds_for (di_seq (d_var 1)) (dg_tup (dgs_cons (dg_var 3) (dgs_cons (dg_var 4) dgs_nil))) (dss_one (ds_set 2 (d_fn 7 (da_cons d_int (da_cons (d_var 2) (da_cons (d_var 4) (da_cons (d_ix (d_ix (d_var 0) (d_var 3)) d_int) da_nil))))))))
    (dss_one (ds_ret (d_fn 11 (da_cons (d_var 2) da_nil))))))
/-- slots: 0 value, 1 one, 2 later -/
noncomputable def b__are_pairs : Sv G :=
  (sSeq (sT (qOr (qNot (qTru (o1 (vIsi "tuple") (eVar 0)))) (qVal (o2 vEq (eB cLen (aCons (eVar 0) aNil)) (eC (.int 0))))) (sRet (eC (.bl false))) sNext)
    (sSeq (sT (qGc (qNot (qTru (eGc (eB cAll (aCons (eLc (iSeq (eVar 0)) (gVar 1) qYes (eAnd (o1 (vIsi "tuple") (eVar 1)) (o2 vEq (eB cLen (aCons (eVar 1) aNil)) (eC (.int 2)))) [1]) aNil)))))) (sRet (eC (.bl false))) sNext)
    (sSeq (sT (qGc (qNot (qTru (eGc (eB cAll (aCons (eLc (iSeq (eVar 0)) (gVar 1) qYes (eGc (eAnd (eFn (G := G) .f_is_integer (aCons (o2 vIx (eVar 1) (eC (.int 0))) aNil)) (eAnd (o2 vGe (o2 vIx (eVar 1) (eC (.int 0))) (eC (.int 0))) (eAnd (eFn (G := G) .f_is_integer (aCons (o2 vIx (eVar 1) (eC (.int 1))) aNil)) (o2 vGe (o2 vIx (eVar 1) (eC (.int 1))) (eC (.int 1))))))) [1]) aNil)))))) (sRet (eC (.bl false))) sNext)
    (sRet (eB cAll (aCons (eLc (iZipD (aCons (eVar 0) (aCons (eSl (eVar 0) (pSo (eC (.int 1))) pNo) aNil))) (gTupG 2 (gConsG (gVar 1) (gConsG (gVar 2) gNilG))) qYes (o2 vLt (o2 vIx (eVar 1) (eC (.int 0))) (o2 vIx (eVar 2) (eC (.int 0)))) [1, 2]) aNil))))))
theorem sc__are_pairs : FnScope ["value", "one", "later"] ["value"] (defScope s__are_pairs) := ⟨rfl, rfl, rfl, by decide +kernel, rfl, by decide +kernel, by decide +kernel⟩
theorem ok__are_pairs : DSs G (fnS ["value", "one", "later"] (defScope s__are_pairs)) (defBody s__are_pairs) b__are_pairs :=
  (dss_cons (ds_if (dt_w (dw_or (dt_not (dt_tru (d_isi "tuple" (d_var 0)))) (dw_or1 (dt_cmp h_eq (d_blt h_len PySem.boot_len (da_cons (d_var 0) da_nil)) d_int)))) (dss_one (ds_ret d_bl)) dss_nil)
    (dss_cons (ds_if (dt_gc (dt_not (dt_tru (d_gc (d_blt h_all PyProof.Rows.boot_all (da_cons (d_lc [("one", 1)] (di_seq (d_var 0)) (dg_var 1) dts_nil (d_and (d_isi "tuple" (d_var 1)) (d_one (d_cmp h_eq (d_blt h_len PySem.boot_len (da_cons (d_var 1) da_nil)) d_int)))) da_nil)))))) (dss_one (ds_ret d_bl)) dss_nil)
    (dss_cons (ds_if (dt_gc (dt_not (dt_tru (d_gc (d_blt h_all PyProof.Rows.boot_all (da_cons (d_lc [("one", 1)] (di_seq (d_var 0)) (dg_var 1) dts_nil (d_gc (d_and (d_fn 3 (da_cons (d_ix (d_var 1) d_int) da_nil)) (d_and (d_cmp h_ge (d_ix (d_var 1) d_int) d_int) (d_and (d_fn 3 (da_cons (d_ix (d_var 1) d_int) da_nil)) (d_one (d_cmp h_ge (d_ix (d_var 1) d_int) d_int))))))) da_nil)))))) (dss_one (ds_ret d_bl)) dss_nil)
    (dss_one (ds_ret (d_blt h_all PyProof.Rows.boot_all (da_cons (d_lc [("one", 1), ("later", 2)] (di_zip (da_cons (d_var 0) (da_cons (d_sl (d_var 0) (dp_so d_int) dp_no) da_nil))) (dg_tup (dgs_cons (dg_var 1) (dgs_cons (dg_var 2) dgs_nil))) dts_nil (d_cmp h_lt (d_ix (d_var 1) d_int) (d_ix (d_var 2) d_int))) da_nil)))))))
/-- slots: 0 names, 1 value, 2 deep, 3 word, 4 name, 5 one -/
noncomputable def b__is_step : Sv G :=
  (sSeq (sT (qOr (qNot (qTru (o1 (vIsi "tuple") (eVar 1)))) (qOr (qVal (o2 vLt (eB cLen (aCons (eVar 1) aNil)) (eC (.int 2)))) (qNot (qTru (o1 (vIsi "str") (o2 vIx (eVar 1) (eC (.int 0)))))))) (sRet (eC (.bl false))) sNext)
    (sSeq (sSet (o2 vIx (eVar 1) (eC (.int 0))) (gVar 3))
    (sSeq (sT (qVal (o2 vNe (eTGet t_STEPS (eVar 3)) (eB cLen (aCons (eVar 1) aNil)))) (sRet (eC (.bl false))) sNext)
    (sSeq (sT (qVal (o2 vEq (eVar 3) (eC (.str ("sum" : Str))))) (sRet (eFn (G := G) .f__are_pairs (aCons (o2 vIx (eVar 1) (eC (.int 1))) aNil))) sNext)
    (sSeq (sT (qGc (qAnd (qVal (o2 vIn (eVar 3) (eTup (aCons (eC (.str ("push" : Str))) (aCons (eC (.str ("false" : Str))) aNil))))) (qNot (qAnd (qTru (eFn (G := G) .f_is_integer (aCons (o2 vIx (eVar 1) (eC (.int 1))) aNil))) (qVal (o2 vGe (o2 vIx (eVar 1) (eC (.int 1))) (eC (.int 0)))))))) (sRet (eC (.bl false))) sNext)
    (sSeq (sT (qVal (o2 vEq (eVar 3) (eC (.str ("false" : Str))))) (sRet (eC (.bl true))) sNext)
    (sSeq (sSet (eIf (qVal (o2 vEq (eVar 3) (eC (.str ("push" : Str))))) (o2 vIx (eVar 1) (eC (.int 2))) (o2 vIx (eVar 1) (eC (.int 1)))) (gVar 4))
    (sSeq (sT (qOr (qNot (qTru (o1 (vIsi "str") (eVar 4)))) (qVal (o2 vNotIn (eVar 4) (eVar 0)))) (sRet (eC (.bl false))) sNext)
    (sSeq (sT (qVal (o2 vEq (eVar 3) (eC (.str ("push" : Str))))) (sRet (eAnd (o1 (vIsi "str") (o2 vIx (eVar 1) (eC (.int 3)))) (eAnd (o2 vIn (o2 vIx (eVar 1) (eC (.int 3))) (eC c_SIDES)) (eFn (G := G) .f_is_integer (aCons (o2 vIx (eVar 1) (eC (.int 4))) aNil))))) sNext)
    (sSeq (sT (qVal (o2 vEq (eVar 3) (eC (.str ("empty" : Str))))) (sRet (eC (.bl true))) sNext)
    (sRet (eAnd (eFn (G := G) .f_is_integer (aCons (o2 vIx (eVar 1) (eC (.int 2))) aNil)) (eAnd (o2 vGt (eVar 2) (eC (.int 0))) (eB cAll (aCons (eLc (iSeq (eGc (eSl (eVar 1) (pSo (eC (.int 3))) pNo))) (gVar 5) qYes (eFn (G := G) .f__is_paper (aCons (eVar 0) (aCons (eVar 5) (aCons (o2 vSub (eVar 2) (eC (.int 1))) aNil)))) [5]) aNil)))))))))))))))
theorem sc__is_step : FnScope ["names", "value", "deep", "word", "name", "one"] ["names", "value", "deep"] (defScope s__is_step) := ⟨rfl, rfl, rfl, by decide +kernel, rfl, by decide +kernel, by decide +kernel⟩
theorem ok__is_step : DSs G (fnS ["names", "value", "deep", "word", "name", "one"] (defScope s__is_step)) (defBody s__is_step) b__is_step :=
  (dss_cons (ds_if (dt_w (dw_or (dt_not (dt_tru (d_isi "tuple" (d_var 1)))) (dw_or (dt_cmp h_lt (d_blt h_len PySem.boot_len (da_cons (d_var 1) da_nil)) d_int) (dw_or1 (dt_not (dt_tru (d_isi "str" (d_ix (d_var 1) d_int)))))))) (dss_one (ds_ret d_bl)) dss_nil)
    (dss_cons (ds_set 3 (d_ix (d_var 1) d_int))
    (dss_cons (ds_if (dt_cmp h_ne (d_tget 0 (d_var 3)) (d_blt h_len PySem.boot_len (da_cons (d_var 1) da_nil))) (dss_one (ds_ret d_bl)) dss_nil)
    (dss_cons (ds_if (dt_cmp h_eq (d_var 3) d_str) (dss_one (ds_ret (d_fn 19 (da_cons (d_ix (d_var 1) d_int) da_nil)))) dss_nil)
    (dss_cons (ds_if (dt_gc (dt_w (dw_and (dt_cmp h_in (d_var 3) (d_tup (da_cons d_str (da_cons d_str da_nil)))) (dw_and1 (dt_not (dt_w (dw_and (dt_tru (d_fn 3 (da_cons (d_ix (d_var 1) d_int) da_nil))) (dw_and1 (dt_cmp h_ge (d_ix (d_var 1) d_int) d_int))))))))) (dss_one (ds_ret d_bl)) dss_nil)
    (dss_cons (ds_if (dt_cmp h_eq (d_var 3) d_str) (dss_one (ds_ret d_bl)) dss_nil)
    (dss_cons (ds_set 4 (d_if (dt_cmp h_eq (d_var 3) d_str) (d_ix (d_var 1) d_int) (d_ix (d_var 1) d_int)))
    (dss_cons (ds_if (dt_w (dw_or (dt_not (dt_tru (d_isi "str" (d_var 4)))) (dw_or1 (dt_cmp h_notin (d_var 4) (d_var 0))))) (dss_one (ds_ret d_bl)) dss_nil)
    (dss_cons (ds_if (dt_cmp h_eq (d_var 3) d_str) (dss_one (ds_ret (d_and (d_isi "str" (d_ix (d_var 1) d_int)) (d_and (d_cmp h_in (d_ix (d_var 1) d_int) (d_cn (List.mem_of_getElem? (i := 13) rfl))) (d_one (d_fn 3 (da_cons (d_ix (d_var 1) d_int) da_nil))))))) dss_nil)
    (dss_cons (ds_if (dt_cmp h_eq (d_var 3) d_str) (dss_one (ds_ret d_bl)) dss_nil)
    (dss_one (ds_ret (d_and (d_fn 3 (da_cons (d_ix (d_var 1) d_int) da_nil)) (d_and (d_cmp h_gt (d_var 2) d_int) (d_one (d_blt h_all PyProof.Rows.boot_all (da_cons (d_lc [("one", 5)] (di_seq (d_gc (d_sl (d_var 1) (dp_so d_int) dp_no))) (dg_var 5) dts_nil (d_fn 21 (da_cons (d_var 0) (da_cons (d_var 5) (da_cons (d_op h_sub (d_var 2) d_int) da_nil))))) da_nil)))))))))))))))))
/-- slots: 0 names, 1 value, 2 deep, 3 one -/
noncomputable def b__is_paper : Sv G :=
  (sSeq (sT (qGc (qOr (qNot (qTru (o1 (vIsi "tuple") (eVar 1)))) (qOr (qVal (o2 vEq (eB cLen (aCons (eVar 1) aNil)) (eC (.int 0)))) (qNot (qTru (eGc (eB cAll (aCons (eLc (iSeq (eVar 1)) (gVar 3) qYes (eFn (G := G) .f__is_step (aCons (eVar 0) (aCons (eVar 3) (aCons (eVar 2) aNil)))) [3]) aNil)))))))) (sRet (eC (.bl false))) sNext)
    (sRet (eAnd (o2 vIn (o2 vIx (o2 vIx (eVar 1) (o1 vNeg (eC (.int 1)))) (eC (.int 0))) (eC c_ENDS)) (eNotV (eB cAny (aCons (eLc (iSeq (eGc (eSl (eVar 1) pNo (pSo (o1 vNeg (eC (.int 1))))))) (gVar 3) qYes (o2 vIn (o2 vIx (eVar 3) (eC (.int 0))) (eC c_ENDS)) [3]) aNil))))))
theorem sc__is_paper : FnScope ["names", "value", "deep", "one"] ["names", "value", "deep"] (defScope s__is_paper) := ⟨rfl, rfl, rfl, by decide +kernel, rfl, by decide +kernel, by decide +kernel⟩
theorem ok__is_paper : DSs G (fnS ["names", "value", "deep", "one"] (defScope s__is_paper)) (defBody s__is_paper) b__is_paper :=
  (dss_cons (ds_if (dt_gc (dt_w (dw_or (dt_not (dt_tru (d_isi "tuple" (d_var 1)))) (dw_or (dt_cmp h_eq (d_blt h_len PySem.boot_len (da_cons (d_var 1) da_nil)) d_int) (dw_or1 (dt_not (dt_tru (d_gc (d_blt h_all PyProof.Rows.boot_all (da_cons (d_lc [("one", 3)] (di_seq (d_var 1)) (dg_var 3) dts_nil (d_fn 20 (da_cons (d_var 0) (da_cons (d_var 3) (da_cons (d_var 2) da_nil))))) da_nil)))))))))) (dss_one (ds_ret d_bl)) dss_nil)
    (dss_one (ds_ret (d_and (d_cmp h_in (d_ix (d_ix (d_var 1) (d_neg d_int)) d_int) (d_cn (List.mem_of_getElem? (i := 14) rfl))) (d_one (d_notV (d_blt h_any PyProof.Rows.boot_any (da_cons (d_lc [("one", 3)] (di_seq (d_gc (d_sl (d_var 1) dp_no (dp_so (d_neg d_int))))) (dg_var 3) dts_nil (d_cmp h_in (d_ix (d_var 3) d_int) (d_cn (List.mem_of_getElem? (i := 14) rfl)))) da_nil))))))))
/-- slots: 0 bounds, 1 name, 2 side, 3 value, 4 least, 5 greatest, 6 found, 7 one -/
noncomputable def b_pushed_bounds : Sv G :=
  (sSeq (sSet (o2 vIx (eVar 0) (eVar 1)) (gTupG 2 (gConsG (gVar 4) (gConsG (gVar 5) gNilG))))
    (sSeq (sSet (eGc (eDc (iSeq (eVar 0)) (gVar 7) qYes (eVar 7) (o2 vIx (eVar 0) (eVar 7)) [7])) (gVar 6))
    (sSeq (sPut (eIf (qVal (o2 vEq (eVar 2) (eC c_LEAST))) (eTup (aCons (eVar 3) (aCons (eVar 5) aNil))) (eTup (aCons (eVar 4) (aCons (eVar 3) aNil)))) (eVar 6) (eVar 1))
    (sRet (eVar 6)))))
theorem sc_pushed_bounds : FnScope ["bounds", "name", "side", "value", "least", "greatest", "found", "one"] ["bounds", "name", "side", "value"] (defScope s_pushed_bounds) := ⟨rfl, rfl, rfl, by decide +kernel, rfl, by decide +kernel, by decide +kernel⟩
theorem ok_pushed_bounds : DSs G (fnS ["bounds", "name", "side", "value", "least", "greatest", "found", "one"] (defScope s_pushed_bounds)) (defBody s_pushed_bounds) b_pushed_bounds :=
  (dss_cons (ds_asg (d_ix (d_var 0) (d_var 1)) (dg_tup (dgs_cons (dg_var 4) (dgs_cons (dg_var 5) dgs_nil))))
    (dss_cons (ds_setDc 6 [("one", 7)] (di_seq (d_var 0)) (dg_var 7) dts_nil (d_var 7) (d_ix (d_var 0) (d_var 7)))
    (dss_cons (ds_put (d_if (dt_cmp h_eq (d_var 2) (d_cn (List.mem_of_getElem? (i := 5) rfl))) (d_tup (da_cons (d_var 3) (da_cons (d_var 5) da_nil))) (d_tup (da_cons (d_var 4) (da_cons (d_var 3) da_nil)))) (d_var 6) (d_var 1))
    (dss_one (ds_ret (d_var 6))))))
/-- slots: 0 bounds, 1 name, 2 side, 3 value, 4 least, 5 greatest, 6 found, 7 one -/
noncomputable def b_beyond : Sv G :=
  (sSeq (sSet (o2 vIx (eVar 0) (eVar 1)) (gTupG 2 (gConsG (gVar 4) (gConsG (gVar 5) gNilG))))
    (sSeq (sSet (eGc (eDc (iSeq (eVar 0)) (gVar 7) qYes (eVar 7) (o2 vIx (eVar 0) (eVar 7)) [7])) (gVar 6))
    (sSeq (sT (qVal (o2 vEq (eVar 2) (eC c_LEAST))) (sPut (eTup (aCons (eVar 4) (aCons (eIf (qVal (o2 vIsN (eVar 5) (eC .non))) (o2 vSub (eVar 3) (eC (.int 1))) (eB cMin (aCons (o2 vSub (eVar 3) (eC (.int 1))) (aCons (eVar 5) aNil)))) aNil))) (eVar 6) (eVar 1)) (sPut (eTup (aCons (eIf (qVal (o2 vIsN (eVar 4) (eC .non))) (o2 vAdd (eVar 3) (eC (.int 1))) (eB cMax (aCons (o2 vAdd (eVar 3) (eC (.int 1))) (aCons (eVar 4) aNil)))) (aCons (eVar 5) aNil))) (eVar 6) (eVar 1)))
    (sRet (eVar 6)))))
theorem sc_beyond : FnScope ["bounds", "name", "side", "value", "least", "greatest", "found", "one"] ["bounds", "name", "side", "value"] (defScope s_beyond) := ⟨rfl, rfl, rfl, by decide +kernel, rfl, by decide +kernel, by decide +kernel⟩
theorem ok_beyond : DSs G (fnS ["bounds", "name", "side", "value", "least", "greatest", "found", "one"] (defScope s_beyond)) (defBody s_beyond) b_beyond :=
  (dss_cons (ds_asg (d_ix (d_var 0) (d_var 1)) (dg_tup (dgs_cons (dg_var 4) (dgs_cons (dg_var 5) dgs_nil))))
    (dss_cons (ds_setDc 6 [("one", 7)] (di_seq (d_var 0)) (dg_var 7) dts_nil (d_var 7) (d_ix (d_var 0) (d_var 7)))
    (dss_cons (ds_if (dt_cmp h_eq (d_var 2) (d_cn (List.mem_of_getElem? (i := 5) rfl))) (dss_one (ds_put (d_tup (da_cons (d_var 4) (da_cons (d_if (dt_cmp h_is (d_var 5) d_non) (d_op h_sub (d_var 3) d_int) (d_blt h_min PyProof.Rows.boot_min (da_cons (d_op h_sub (d_var 3) d_int) (da_cons (d_var 5) da_nil)))) da_nil))) (d_var 6) (d_var 1))) (dss_one (ds_put (d_tup (da_cons (d_if (dt_cmp h_is (d_var 4) d_non) (d_op h_add (d_var 3) d_int) (d_blt h_max PyProof.Rows.boot_max (da_cons (d_op h_add (d_var 3) d_int) (da_cons (d_var 4) da_nil)))) (da_cons (d_var 5) da_nil))) (d_var 6) (d_var 1))))
    (dss_one (ds_ret (d_var 6))))))
/-- slots: 0 bounds, 1 name, 2 side, 3 value, 4 own -/
noncomputable def b_is_better : Sv G :=
  (sSeq (sSet (o2 vIx (o2 vIx (eVar 0) (eVar 1)) (oM isLst vIndex (eC c_SIDES) (aCons (eVar 2) aNil))) (gVar 4))
    (sSeq (sT (qVal (o2 vIsN (eVar 4) (eC .non))) (sRet (eC (.bl true))) sNext)
    (sRet (eIf (qVal (o2 vEq (eVar 2) (eC c_LEAST))) (o2 vGt (eVar 3) (eVar 4)) (o2 vLt (eVar 3) (eVar 4))))))
theorem sc_is_better : FnScope ["bounds", "name", "side", "value", "own"] ["bounds", "name", "side", "value"] (defScope s_is_better) := ⟨rfl, rfl, rfl, by decide +kernel, rfl, by decide +kernel, by decide +kernel⟩
theorem ok_is_better : DSs G (fnS ["bounds", "name", "side", "value", "own"] (defScope s_is_better)) (defBody s_is_better) b_is_better :=
  (dss_cons (ds_set 4 (d_ix (d_ix (d_var 0) (d_var 1)) (d_index (d_cn (List.mem_of_getElem? (i := 13) rfl)) (da_cons (d_var 2) da_nil))))
    (dss_cons (ds_if (dt_cmp h_is (d_var 4) d_non) (dss_one (ds_ret d_bl)) dss_nil)
    (dss_one (ds_ret (d_if (dt_cmp h_eq (d_var 2) (d_cn (List.mem_of_getElem? (i := 5) rfl))) (d_cmp h_gt (d_var 3) (d_var 4)) (d_cmp h_lt (d_var 3) (d_var 4)))))))
/-- slots: 0 atom, 1 bounds, 2 most -/
noncomputable def b_is_never : Sv G :=
  (sSeq (sSet (eFn (G := G) .f_best_of (aCons (o2 vIx (eVar 0) (eC (.int 1))) (aCons (eVar 1) (aCons (eC (.bl false)) aNil)))) (gVar 2))
    (sRet (eAnd (o2 vNotN (eVar 2) (eC .non)) (o2 vLt (eVar 2) (eC (.int 0))))))
theorem sc_is_never : FnScope ["atom", "bounds", "most"] ["atom", "bounds"] (defScope s_is_never) := ⟨rfl, rfl, rfl, by decide +kernel, rfl, by decide +kernel, by decide +kernel⟩
theorem ok_is_never : DSs G (fnS ["atom", "bounds", "most"] (defScope s_is_never)) (defBody s_is_never) b_is_never :=
  (dss_cons (ds_set 2 (d_fn 13 (da_cons (d_ix (d_var 0) d_int) (da_cons (d_var 1) (da_cons d_bl da_nil)))))
    (dss_one (ds_ret (d_and (d_cmp h_isnot (d_var 2) d_non) (d_one (d_cmp h_lt (d_var 2) d_int))))))
/-- slots: 0 bounds, 1 name, 2 value, 3 least, 4 greatest, 5 low, 6 high, 7 found, 8 side, 9 own, 10 one -/
noncomputable def b_halves : Sv G :=
  (sSeq (sSet (o2 vIx (eVar 0) (eVar 1)) (gTupG 2 (gConsG (gVar 3) (gConsG (gVar 4) gNilG))))
    (sSeq (sSet (eTup (aCons (eVar 3) (aCons (eIf (qVal (o2 vIsN (eVar 4) (eC .non))) (eVar 2) (eB cMin (aCons (eVar 2) (aCons (eVar 4) aNil)))) aNil))) (gVar 5))
    (sSeq (sSet (eTup (aCons (eIf (qVal (o2 vIsN (eVar 3) (eC .non))) (o2 vAdd (eVar 2) (eC (.int 1))) (eB cMax (aCons (o2 vAdd (eVar 2) (eC (.int 1))) (aCons (eVar 3) aNil)))) (aCons (eVar 4) aNil))) (gVar 6))
    (sSeq (sSet (eGc (eLst aNil)) (gVar 7))
    (sSeq (sFor (iSeq (eTup (aCons (eVar 5) (aCons (eVar 6) aNil)))) (gVar 8) (sSeq (sSet (eGc (eDc (iSeq (eVar 0)) (gVar 10) qYes (eVar 10) (o2 vIx (eVar 0) (eVar 10)) [10])) (gVar 9))
    (sSeq (sPut (eVar 8) (eVar 9) (eVar 1))
    (sDrop (oM isLst vApp (eVar 7) (aCons (eVar 9) aNil))))))
    (sRet (eVar 7)))))))
theorem sc_halves : FnScope ["bounds", "name", "value", "least", "greatest", "low", "high", "found", "side", "own", "one"] ["bounds", "name", "value"] (defScope s_halves) := ⟨rfl, rfl, rfl, by decide +kernel, rfl, by decide +kernel, by decide +kernel⟩
theorem ok_halves : DSs G (fnS ["bounds", "name", "value", "least", "greatest", "low", "high", "found", "side", "own", "one"] (defScope s_halves)) (defBody s_halves) b_halves :=
  (dss_cons (ds_asg (d_ix (d_var 0) (d_var 1)) (dg_tup (dgs_cons (dg_var 3) (dgs_cons (dg_var 4) dgs_nil))))
    (dss_cons (ds_set 5 (d_tup (da_cons (d_var 3) (da_cons (d_if (dt_cmp h_is (d_var 4) d_non) (d_var 2) (d_blt h_min PyProof.Rows.boot_min (da_cons (d_var 2) (da_cons (d_var 4) da_nil)))) da_nil))))
    (dss_cons (ds_set 6 (d_tup (da_cons (d_if (dt_cmp h_is (d_var 3) d_non) (d_op h_add (d_var 2) d_int) (d_blt h_max PyProof.Rows.boot_max (da_cons (d_op h_add (d_var 2) d_int) (da_cons (d_var 3) da_nil)))) (da_cons (d_var 4) da_nil))))
    (dss_cons (ds_set 7 (d_gc (d_lst da_nil)))
    (dss_cons (ds_for (di_seq (d_tup (da_cons (d_var 5) (da_cons (d_var 6) da_nil)))) (dg_var 8) (dss_cons (ds_setDc 9 [("one", 10)] (di_seq (d_var 0)) (dg_var 10) dts_nil (d_var 10) (d_ix (d_var 0) (d_var 10)))
    (dss_cons (ds_put (d_var 8) (d_var 9) (d_var 1))
    (dss_one (ds_expr (d_app (d_var 7) (da_cons (d_var 9) da_nil)))))))
    (dss_one (ds_ret (d_var 7))))))))
/-- slots: 0 self, 1 bounds, 2 atoms -/
noncomputable def b_Reading_init : Sv G :=
  (sSeq (sFldD (G := G) "bounds" (eVar 1) (eVar 0))
    (sFldD (G := G) "atoms" (eB cList (aCons (eVar 2) aNil)) (eVar 0)))
theorem sc_Reading_init : FnScope ["self", "bounds", "atoms"] ["self", "bounds", "atoms"] (defScope s_Reading_init) := ⟨rfl, rfl, rfl, by decide +kernel, rfl, by decide +kernel, by decide +kernel⟩
theorem ok_Reading_init : DSs G (fnS ["self", "bounds", "atoms"] (defScope s_Reading_init)) (defBody s_Reading_init) b_Reading_init :=
  (dss_cons (ds_fld (d_var 1) (d_var 0))
    (dss_one (ds_fld (d_ty h_list PyProof.Rows.boot_list (da_cons (d_var 2) da_nil)) (d_var 0))))
/-- slots: 0 self, 1 step, 2 word, 3 numbers, 4 least, 5 greatest, 6 number, 7 name, 8 side, 9 value, 10 one -/
noncomputable def b_Reading_is_right : Sv G :=
  (sSeq (sSet (o2 vIx (eVar 1) (eC (.int 0))) (gVar 2))
    (sSeq (sSet (eGc (eIf (qVal (o2 vEq (eVar 2) (eC (.str ("sum" : Str))))) (eLc (iSeq (o2 vIx (eVar 1) (eC (.int 1)))) (gVar 10) qYes (o2 vIx (eVar 10) (eC (.int 0))) [10]) (eIf (qVal (o2 vIn (eVar 2) (eTup (aCons (eC (.str ("push" : Str))) (aCons (eC (.str ("false" : Str))) aNil))))) (eLst (aCons (o2 vIx (eVar 1) (eC (.int 1))) aNil)) (eLst aNil)))) (gVar 3))
    (sSeq (sT (qGc (qTru (eGc (eB cAny (aCons (eLc (iSeq (eVar 3)) (gVar 6) qYes (o2 vGe (eVar 6) (eB cLen (aCons (o1 (vFld G.nat "atoms") (eVar 0)) aNil))) [6]) aNil))))) (sRet (eC (.bl false))) sNext)
    (sSeq (sT (qVal (o2 vEq (eVar 2) (eC (.str ("sum" : Str))))) (sSeq (sDrop (oM isLst vApp (o1 (vFld G.nat "atoms") (eVar 0)) (aCons (eFn (G := G) .f_sum_of (aCons (o1 (vFld G.nat "atoms") (eVar 0)) (aCons (o2 vIx (eVar 1) (eC (.int 1))) aNil))) aNil)))
    (sRet (eC (.bl true)))) sNext)
    (sSeq (sT (qVal (o2 vEq (eVar 2) (eC (.str ("false" : Str))))) (sRet (eFn (G := G) .f_is_never (aCons (o2 vIx (o1 (vFld G.nat "atoms") (eVar 0)) (o2 vIx (eVar 1) (eC (.int 1)))) (aCons (o1 (vFld G.nat "bounds") (eVar 0)) aNil)))) sNext)
    (sSeq (sT (qVal (o2 vEq (eVar 2) (eC (.str ("empty" : Str))))) (sSeq (sSet (o2 vIx (o1 (vFld G.nat "bounds") (eVar 0)) (o2 vIx (eVar 1) (eC (.int 1)))) (gTupG 2 (gConsG (gVar 4) (gConsG (gVar 5) gNilG))))
    (sRet (eAnd (o2 vNotN (eVar 4) (eC .non)) (eAnd (o2 vNotN (eVar 5) (eC .non)) (o2 vGt (eVar 4) (eVar 5)))))) sNext)
    (sSeq (sSet (eGc (eSl (eVar 1) (pSo (eC (.int 1))) pNo)) (gTupG 4 (gConsG (gVar 6) (gConsG (gVar 7) (gConsG (gVar 8) (gConsG (gVar 9) gNilG))))))
    (sSeq (sT (qGc (qNot (qTru (eFn (G := G) .f_is_better (aCons (o1 (vFld G.nat "bounds") (eVar 0)) (aCons (eVar 7) (aCons (eVar 8) (aCons (eVar 9) aNil)))))))) (sRet (eC (.bl false))) sNext)
    (sSeq (sT (qGc (qNot (qTru (eGc (eFn (G := G) .f_is_never (aCons (o2 vIx (o1 (vFld G.nat "atoms") (eVar 0)) (eVar 6)) (aCons (eFn (G := G) .f_beyond (aCons (o1 (vFld G.nat "bounds") (eVar 0)) (aCons (eVar 7) (aCons (eVar 8) (aCons (eVar 9) aNil))))) aNil))))))) (sRet (eC (.bl false))) sNext)
    (sSeq (sFldD (G := G) "bounds" (eFn (G := G) .f_pushed_bounds (aCons (o1 (vFld G.nat "bounds") (eVar 0)) (aCons (eVar 7) (aCons (eVar 8) (aCons (eVar 9) aNil))))) (eVar 0))
    (sRet (eC (.bl true)))))))))))))
theorem sc_Reading_is_right : FnScope ["self", "step", "word", "numbers", "least", "greatest", "number", "name", "side", "value", "one"] ["self", "step"] (defScope s_Reading_is_right) := ⟨rfl, rfl, rfl, by decide +kernel, rfl, by decide +kernel, by decide +kernel⟩
theorem ok_Reading_is_right : DSs G (fnS ["self", "step", "word", "numbers", "least", "greatest", "number", "name", "side", "value", "one"] (defScope s_Reading_is_right)) (defBody s_Reading_is_right) b_Reading_is_right :=
  (dss_cons (ds_set 2 (d_ix (d_var 1) d_int))
    (dss_cons (ds_set 3 (d_gc (d_if (dt_cmp h_eq (d_var 2) d_str) (d_lc [("one", 10)] (di_seq (d_ix (d_var 1) d_int)) (dg_var 10) dts_nil (d_ix (d_var 10) d_int)) (d_if (dt_cmp h_in (d_var 2) (d_tup (da_cons d_str (da_cons d_str da_nil)))) (d_lst (da_cons (d_ix (d_var 1) d_int) da_nil)) (d_lst da_nil)))))
    (dss_cons (ds_if (dt_gc (dt_tru (d_gc (d_blt h_any PyProof.Rows.boot_any (da_cons (d_lc [("number", 6)] (di_seq (d_var 3)) (dg_var 6) dts_nil (d_cmp h_ge (d_var 6) (d_blt h_len PySem.boot_len (da_cons (d_fld (d_var 0)) da_nil)))) da_nil))))) (dss_one (ds_ret d_bl)) dss_nil)
    (dss_cons (ds_if (dt_cmp h_eq (d_var 2) d_str) (dss_cons (ds_expr (d_app (d_fld (d_var 0)) (da_cons (d_fn 18 (da_cons (d_fld (d_var 0)) (da_cons (d_ix (d_var 1) d_int) da_nil))) da_nil)))
    (dss_one (ds_ret d_bl))) dss_nil)
    (dss_cons (ds_if (dt_cmp h_eq (d_var 2) d_str) (dss_one (ds_ret (d_fn 25 (da_cons (d_ix (d_fld (d_var 0)) (d_ix (d_var 1) d_int)) (da_cons (d_fld (d_var 0)) da_nil))))) dss_nil)
    (dss_cons (ds_if (dt_cmp h_eq (d_var 2) d_str) (dss_cons (ds_asg (d_ix (d_fld (d_var 0)) (d_ix (d_var 1) d_int)) (dg_tup (dgs_cons (dg_var 4) (dgs_cons (dg_var 5) dgs_nil))))
    (dss_one (ds_ret (d_and (d_cmp h_isnot (d_var 4) d_non) (d_and (d_cmp h_isnot (d_var 5) d_non) (d_one (d_cmp h_gt (d_var 4) (d_var 5)))))))) dss_nil)
    (dss_cons (ds_asg (d_gc (d_sl (d_var 1) (dp_so d_int) dp_no)) (dg_tup (dgs_cons (dg_var 6) (dgs_cons (dg_var 7) (dgs_cons (dg_var 8) (dgs_cons (dg_var 9) dgs_nil))))))
    (dss_cons (ds_if (dt_gc (dt_not (dt_tru (d_fn 24 (da_cons (d_fld (d_var 0)) (da_cons (d_var 7) (da_cons (d_var 8) (da_cons (d_var 9) da_nil)))))))) (dss_one (ds_ret d_bl)) dss_nil)
    (dss_cons (ds_if (dt_gc (dt_not (dt_tru (d_gc (d_fn 25 (da_cons (d_ix (d_fld (d_var 0)) (d_var 6)) (da_cons (d_fn 23 (da_cons (d_fld (d_var 0)) (da_cons (d_var 7) (da_cons (d_var 8) (da_cons (d_var 9) da_nil))))) da_nil))))))) (dss_one (ds_ret d_bl)) dss_nil)
    (dss_cons (ds_fld (d_fn 22 (da_cons (d_fld (d_var 0)) (da_cons (d_var 7) (da_cons (d_var 8) (da_cons (d_var 9) da_nil))))) (d_var 0))
    (dss_one (ds_ret d_bl))))))))))))
/-- slots: 0 self, 1 paper, 2 place, 3 number, 4 step, 5 own, 6 side, 7 bounds, 8 found -/
noncomputable def b_Reading_fault : Sv G :=
  (sSeq (sFor (iEnum2 (aCons (eVar 1) aNil)) (gTupG 2 (gConsG (gVar 3) (gConsG (gVar 4) gNilG))) (sSeq (sSet (o2 vAdd (eVar 2) (eTup (aCons (eVar 3) aNil))) (gVar 5))
    (sSeq (sT (qVal (o2 vNe (o2 vIx (eVar 4) (eC (.int 0))) (eC (.str ("split" : Str))))) (sSeq (sT (qGc (qNot (qTru (eMeth (G := G) "_is_right" (eVar 0) (aCons (eVar 4) aNil))))) (sRet (eVar 5)) sNext)
    sCont) sNext)
    (sFor (iEnum2 (aCons (eFn (G := G) .f_halves (aCons (o1 (vFld G.nat "bounds") (eVar 0)) (aCons (o2 vIx (eVar 4) (eC (.int 1))) (aCons (o2 vIx (eVar 4) (eC (.int 2))) aNil)))) aNil)) (gTupG 2 (gConsG (gVar 6) (gConsG (gVar 7) gNilG))) (sSeq (sSet (eGc (eMeth (G := G) "fault" (eMk (G := G) "Reading" .f_Reading_init (aCons (eVar 7) (aCons (o1 (vFld G.nat "atoms") (eVar 0)) aNil))) (aCons (o2 vIx (eVar 4) (o2 vAdd (eC (.int 3)) (eVar 6))) (aCons (o2 vAdd (eVar 5) (eTup (aCons (eVar 6) aNil))) aNil)))) (gVar 8))
    (sT (qVal (o2 vNotN (eVar 8) (eC .non))) (sRet (eVar 8)) sNext))))))
    (sRet (eC .non)))
theorem sc_Reading_fault : FnScope ["self", "paper", "place", "number", "step", "own", "side", "bounds", "found"] ["self", "paper", "place"] (defScope s_Reading_fault) := ⟨rfl, rfl, rfl, by decide +kernel, rfl, by decide +kernel, by decide +kernel⟩
theorem ok_Reading_fault : DSs G (fnS ["self", "paper", "place", "number", "step", "own", "side", "bounds", "found"] (defScope s_Reading_fault)) (defBody s_Reading_fault) b_Reading_fault :=
  (dss_cons (ds_for (di_enum2 (da_cons (d_var 1) da_nil)) (dg_tup (dgs_cons (dg_var 3) (dgs_cons (dg_var 4) dgs_nil))) (dss_cons (ds_set 5 (d_op h_add (d_var 2) (d_tup (da_cons (d_var 3) da_nil))))
    (dss_cons (ds_if (dt_cmp h_ne (d_ix (d_var 4) d_int) d_str) (dss_cons (ds_if (dt_gc (dt_not (dt_tru (d_meth (d_var 0) (da_cons (d_var 4) da_nil))))) (dss_one (ds_ret (d_var 5))) dss_nil)
    (dss_one ds_continue)) dss_nil)
    (dss_one (ds_for (di_enum2 (da_cons (d_fn 26 (da_cons (d_fld (d_var 0)) (da_cons (d_ix (d_var 4) d_int) (da_cons (d_ix (d_var 4) d_int) da_nil)))) da_nil)) (dg_tup (dgs_cons (dg_var 6) (dgs_cons (dg_var 7) dgs_nil))) (dss_cons (ds_set 8 (d_gc (d_meth (d_mk 0 (da_cons (d_var 7) (da_cons (d_fld (d_var 0)) da_nil))) (da_cons (d_ix (d_var 4) (d_op h_add d_int (d_var 6))) (da_cons (d_op h_add (d_var 5) (d_tup (da_cons (d_var 6) da_nil))) da_nil)))))
    (dss_one (ds_if (dt_cmp h_isnot (d_var 8) d_non) (dss_one (ds_ret (d_var 8))) dss_nil))))))))
    (dss_one (ds_ret d_non)))
/-- slots: 0 names, 1 box, 2 atoms, 3 paper, 4 place -/
noncomputable def b_fault_by : Sv G :=
  (sSeq (sT (qGc (qNot (qTru (eFn (G := G) .f__is_paper (aCons (eVar 0) (aCons (eVar 3) (aCons (eC c_MOST_SPLITS) aNil))))))) (sRet (eC c_FORM)) sNext)
    (sSeq (sSet (eGc (eMeth (G := G) "fault" (eMk (G := G) "Reading" .f_Reading_init (aCons (eFn (G := G) .f_bounds_by (aCons (eVar 0) (aCons (eVar 1) aNil))) (aCons (eVar 2) aNil))) (aCons (eVar 3) (aCons (eTup aNil) aNil)))) (gVar 4))
    (sRet (eIf (qVal (o2 vIsN (eVar 4) (eC .non))) (eC .non) (eTup (aCons (eC (.str ("step" : Str))) (aCons (eVar 4) aNil)))))))
theorem sc_fault_by : FnScope ["names", "box", "atoms", "paper", "place"] ["names", "box", "atoms", "paper"] (defScope s_fault_by) := ⟨rfl, rfl, rfl, by decide +kernel, rfl, by decide +kernel, by decide +kernel⟩
theorem ok_fault_by : DSs G (fnS ["names", "box", "atoms", "paper", "place"] (defScope s_fault_by)) (defBody s_fault_by) b_fault_by :=
  (dss_cons (ds_if (dt_gc (dt_not (dt_tru (d_fn 21 (da_cons (d_var 0) (da_cons (d_var 3) (da_cons (d_cn (List.mem_of_getElem? (i := 12) rfl)) da_nil))))))) (dss_one (ds_ret (d_cn (List.mem_of_getElem? (i := 3) rfl)))) dss_nil)
    (dss_cons (ds_set 4 (d_gc (d_meth (d_mk 0 (da_cons (d_fn 17 (da_cons (d_var 0) (da_cons (d_var 1) da_nil))) (da_cons (d_var 2) da_nil))) (da_cons (d_var 3) (da_cons (d_tup da_nil) da_nil)))))
    (dss_one (ds_ret (d_if (dt_cmp h_is (d_var 4) d_non) d_non (d_tup (da_cons d_str (da_cons (d_var 4) da_nil))))))))
/-- slots: 0 names, 1 box, 2 atoms, 3 value -/
noncomputable def b_refutation_fault : Sv G :=
  (sSeq (sDrop (eFn (G := G) .f_check_names (aCons (eVar 0) aNil)))
    (sSeq (sT (qVal (o2 vNotN (eVar 1) (eC .non))) (sDrop (eFn (G := G) .f__check_box (aCons (eVar 0) (aCons (eVar 1) aNil)))) sNext)
    (sSeq (sDrop (eFn (G := G) .f_check_over (aCons (eVar 0) (aCons (eVar 2) aNil))))
    (sRet (eFn (G := G) .f_fault_by (aCons (eVar 0) (aCons (eVar 1) (aCons (eVar 2) (aCons (eVar 3) aNil)))))))))
theorem sc_refutation_fault : FnScope ["names", "box", "atoms", "value"] ["names", "box", "atoms", "value"] (defScope s_refutation_fault) := ⟨rfl, rfl, rfl, by decide +kernel, rfl, by decide +kernel, by decide +kernel⟩
theorem ok_refutation_fault : DSs G (fnS ["names", "box", "atoms", "value"] (defScope s_refutation_fault)) (defBody s_refutation_fault) b_refutation_fault :=
  (dss_cons (ds_expr (d_fn 14 (da_cons (d_var 0) da_nil)))
    (dss_cons (ds_if (dt_cmp h_isnot (d_var 1) d_non) (dss_one (ds_expr (d_fn 15 (da_cons (d_var 0) (da_cons (d_var 1) da_nil))))) dss_nil)
    (dss_cons (ds_expr (d_fn 16 (da_cons (d_var 0) (da_cons (d_var 2) da_nil))))
    (dss_one (ds_ret (d_fn 27 (da_cons (d_var 0) (da_cons (d_var 1) (da_cons (d_var 2) (da_cons (d_var 3) da_nil))))))))))
/-- slots: 0 refutation, 1 step -/
noncomputable def b_are_sums : Sv G :=
  (sRet (eAnd (o2 vEq (o2 vIx (o2 vIx (eVar 0) (o1 vNeg (eC (.int 1)))) (eC (.int 0))) (eC c_FALSE)) (eB cAll (aCons (eLc (iSeq (eGc (eSl (eVar 0) pNo (pSo (o1 vNeg (eC (.int 1))))))) (gVar 1) qYes (o2 vEq (o2 vIx (eVar 1) (eC (.int 0))) (eC c_SUM)) [1]) aNil))))
theorem sc_are_sums : FnScope ["refutation", "step"] ["refutation"] (defScope s_are_sums) := ⟨rfl, rfl, rfl, by decide +kernel, rfl, by decide +kernel, by decide +kernel⟩
theorem ok_are_sums : DSs G (fnS ["refutation", "step"] (defScope s_are_sums)) (defBody s_are_sums) b_are_sums :=
  (dss_one (ds_ret (d_and (d_cmp h_eq (d_ix (d_ix (d_var 0) (d_neg d_int)) d_int) (d_cn (List.mem_of_getElem? (i := 16) rfl))) (d_one (d_blt h_all PyProof.Rows.boot_all (da_cons (d_lc [("step", 1)] (di_seq (d_gc (d_sl (d_var 0) dp_no (dp_so (d_neg d_int))))) (dg_var 1) dts_nil (d_cmp h_eq (d_ix (d_var 1) d_int) (d_cn (List.mem_of_getElem? (i := 15) rfl)))) da_nil))))))
/-- slots: 0 atom, 1 forms, 2 found, 3 _name, 4 factor -/
noncomputable def b__scale : Sv G :=
  (sSeq (sSet (eC (.int 0)) (gVar 2))
    (sSeq (sFor (iSeq (eGc (o2 vIx (eFn (G := G) .f_put_by (aCons (o2 vIx (eVar 0) (eC (.int 1))) (aCons (eVar 1) aNil))) (eC (.int 1))))) (gTupG 2 (gConsG (gVar 3) (gConsG (gVar 4) gNilG))) (sSet (eFn (G := G) .f_divisor (aCons (eVar 2) (aCons (eVar 4) aNil))) (gVar 2)))
    (sRet (eB cMax (aCons (eVar 2) (aCons (eC (.int 1)) aNil))))))
theorem sc__scale : FnScope ["atom", "forms", "found", "_name", "factor"] ["atom", "forms"] (defScope s__scale) := ⟨rfl, rfl, rfl, by decide +kernel, rfl, by decide +kernel, by decide +kernel⟩
theorem ok__scale : DSs G (fnS ["atom", "forms", "found", "_name", "factor"] (defScope s__scale)) (defBody s__scale) b__scale :=
  (dss_cons (ds_set 2 d_int)
    (dss_cons (ds_for (di_seq (d_gc (d_ix (d_fn 9 (da_cons (d_ix (d_var 0) d_int) (da_cons (d_var 1) da_nil))) d_int))) (dg_tup (dgs_cons (dg_var 3) (dgs_cons (dg_var 4) dgs_nil))) (dss_one (ds_set 2 (d_fn 10 (da_cons (d_var 2) (da_cons (d_var 4) da_nil))))))
    (dss_one (ds_ret (d_blt h_max PyProof.Rows.boot_max (da_cons (d_var 2) (da_cons d_int da_nil)))))))
/-- slots: 0 atoms, 1 refutation, 2 forms, 3 rows, 4 old, 5 new, 6 steps, 7 step, 8 pairs, 9 number, 10 factor -/
noncomputable def b__called : Sv G :=
  (sSeq (sSet (eGc (eTup (aCons (eB cList (aCons (eVar 0) aNil)) (aCons (eB cList (aCons (eVar 3) aNil)) (aCons (eLst aNil) aNil))))) (gTupG 3 (gConsG (gVar 4) (gConsG (gVar 5) (gConsG (gVar 6) gNilG)))))
    (sSeq (sFor (iSeq (eGc (eSl (eVar 1) pNo (pSo (o1 vNeg (eC (.int 1))))))) (gVar 7) (sSeq (sT (qVal (o2 vIn (eC c_NEVER) (eVar 5))) sBrk sNext)
    (sSeq (sSet (eGc (eB cTuple (aCons (eLc (iSeq (o2 vIx (eVar 7) (eC (.int 1)))) (gTupG 2 (gConsG (gVar 9) (gConsG (gVar 10) gNilG))) qYes (eGc (eTup (aCons (eVar 9) (aCons (o2 vMul (eVar 10) (eFn (G := G) .f__scale (aCons (o2 vIx (eVar 4) (eVar 9)) (aCons (eVar 2) aNil)))) aNil)))) [9, 10]) aNil))) (gVar 8))
    (sSeq (sDrop (oM isLst vApp (eVar 4) (aCons (eFn (G := G) .f_sum_of (aCons (eVar 4) (aCons (o2 vIx (eVar 7) (eC (.int 1))) aNil))) aNil)))
    (sSeq (sDrop (oM isLst vApp (eVar 5) (aCons (eFn (G := G) .f_sum_of (aCons (eVar 5) (aCons (eVar 8) aNil))) aNil)))
    (sDrop (oM isLst vApp (eVar 6) (aCons (eTup (aCons (eC c_SUM) (aCons (eVar 8) aNil))) aNil))))))))
    (sRet (o2 vAdd (eB cTuple (aCons (eVar 6) aNil)) (eTup (aCons (eTup (aCons (eC c_FALSE) (aCons (oM isLst vIndex (eVar 5) (aCons (eC c_NEVER) aNil)) aNil))) aNil))))))
theorem sc__called : FnScope ["atoms", "refutation", "forms", "rows", "old", "new", "steps", "step", "pairs", "number", "factor"] ["atoms", "refutation", "forms", "rows"] (defScope s__called) := ⟨rfl, rfl, rfl, by decide +kernel, rfl, by decide +kernel, by decide +kernel⟩
theorem ok__called : DSs G (fnS ["atoms", "refutation", "forms", "rows", "old", "new", "steps", "step", "pairs", "number", "factor"] (defScope s__called)) (defBody s__called) b__called :=
  (dss_cons (ds_asg (d_gc (d_tup (da_cons (d_ty h_list PyProof.Rows.boot_list (da_cons (d_var 0) da_nil)) (da_cons (d_ty h_list PyProof.Rows.boot_list (da_cons (d_var 3) da_nil)) (da_cons (d_lst da_nil) da_nil))))) (dg_tup (dgs_cons (dg_var 4) (dgs_cons (dg_var 5) (dgs_cons (dg_var 6) dgs_nil)))))
    (dss_cons (ds_for (di_seq (d_gc (d_sl (d_var 1) dp_no (dp_so (d_neg d_int))))) (dg_var 7) (dss_cons (ds_if (dt_cmp h_in (d_cn (List.mem_of_getElem? (i := 8) rfl)) (d_var 5)) (dss_one ds_break) dss_nil)
    (dss_cons (ds_set 8 (d_gc (d_ty h_tuple PyProof.Rows.boot_tuple (da_cons (d_lc [("number", 9), ("factor", 10)] (di_seq (d_ix (d_var 7) d_int)) (dg_tup (dgs_cons (dg_var 9) (dgs_cons (dg_var 10) dgs_nil))) dts_nil (d_gc (d_tup (da_cons (d_var 9) (da_cons (d_op h_mul (d_var 10) (d_fn 30 (da_cons (d_ix (d_var 4) (d_var 9)) (da_cons (d_var 2) da_nil)))) da_nil))))) da_nil))))
    (dss_cons (ds_expr (d_app (d_var 4) (da_cons (d_fn 18 (da_cons (d_var 4) (da_cons (d_ix (d_var 7) d_int) da_nil))) da_nil)))
    (dss_cons (ds_expr (d_app (d_var 5) (da_cons (d_fn 18 (da_cons (d_var 5) (da_cons (d_var 8) da_nil))) da_nil)))
    (dss_one (ds_expr (d_app (d_var 6) (da_cons (d_tup (da_cons (d_cn (List.mem_of_getElem? (i := 15) rfl)) (da_cons (d_var 8) da_nil))) da_nil)))))))))
    (dss_one (ds_ret (d_op h_add (d_ty h_tuple PyProof.Rows.boot_tuple (da_cons (d_var 6) da_nil)) (d_tup (da_cons (d_tup (da_cons (d_cn (List.mem_of_getElem? (i := 16) rfl)) (da_cons (d_index (d_var 5) (da_cons (d_cn (List.mem_of_getElem? (i := 8) rfl)) da_nil)) da_nil))) da_nil)))))))
/-- slots: 0 names, 1 atoms, 2 refutation, 3 forms, 4 values, 5 rows, 6 one, 7 atom -/
noncomputable def b_refutation_called : Sv G :=
  (sSeq (sT (qGc (qOr (qVal (o2 vNotN (eFn (G := G) .f_refutation_fault (aCons (eVar 0) (aCons (eC .non) (aCons (eVar 1) (aCons (eVar 2) aNil))))) (eC .non))) (qNot (qTru (eFn (G := G) .f_are_sums (aCons (eVar 2) aNil)))))) (sRaise "BadRefutation") sNext)
    (sSeq (sT (qGc (qOr (qNot (qTru (o1 (vIsi "tuple") (eVar 3)))) (qOr (qVal (o2 vNe (eB cLen (aCons (eVar 3) aNil)) (eB cLen (aCons (eVar 0) aNil)))) (qNot (qTru (eGc (eB cAll (aCons (eLc (iSeq (eVar 3)) (gVar 6) qYes (eFn (G := G) .f_is_form (aCons (eVar 6) aNil)) [6]) aNil)))))))) (sRaise "BadForms") sNext)
    (sSeq (sSet (eGc (eB cDict (aCons (eListZip (aCons (eVar 0) (aCons (eVar 3) aNil))) aNil))) (gVar 4))
    (sSeq (sSet (eGc (eB cTuple (aCons (eLc (iSeq (eVar 1)) (gVar 7) qYes (eGc (eFn (G := G) .f_normal_of (aCons (eFn (G := G) .f_put_by (aCons (o2 vIx (eVar 7) (eC (.int 1))) (aCons (eVar 4) aNil))) aNil))) [7]) aNil))) (gVar 5))
    (sRet (eTup (aCons (eVar 5) (aCons (eFn (G := G) .f__called (aCons (eVar 1) (aCons (eVar 2) (aCons (eVar 4) (aCons (eVar 5) aNil))))) aNil))))))))
theorem sc_refutation_called : FnScope ["names", "atoms", "refutation", "forms", "values", "rows", "one", "atom"] ["names", "atoms", "refutation", "forms"] (defScope s_refutation_called) := ⟨rfl, rfl, rfl, by decide +kernel, rfl, by decide +kernel, by decide +kernel⟩
theorem ok_refutation_called : DSs G (fnS ["names", "atoms", "refutation", "forms", "values", "rows", "one", "atom"] (defScope s_refutation_called)) (defBody s_refutation_called) b_refutation_called :=
  (dss_cons (ds_if (dt_gc (dt_w (dw_or (dt_cmp h_isnot (d_fn 28 (da_cons (d_var 0) (da_cons d_non (da_cons (d_var 1) (da_cons (d_var 2) da_nil))))) d_non) (dw_or1 (dt_not (dt_tru (d_fn 29 (da_cons (d_var 2) da_nil)))))))) (dss_one ds_raise) dss_nil)
    (dss_cons (ds_if (dt_gc (dt_w (dw_or (dt_not (dt_tru (d_isi "tuple" (d_var 3)))) (dw_or (dt_cmp h_ne (d_blt h_len PySem.boot_len (da_cons (d_var 3) da_nil)) (d_blt h_len PySem.boot_len (da_cons (d_var 0) da_nil))) (dw_or1 (dt_not (dt_tru (d_gc (d_blt h_all PyProof.Rows.boot_all (da_cons (d_lc [("one", 6)] (di_seq (d_var 3)) (dg_var 6) dts_nil (d_fn 4 (da_cons (d_var 6) da_nil))) da_nil)))))))))) (dss_one ds_raise) dss_nil)
    (dss_cons (ds_set 4 (d_gc (d_ty h_dict PyProof.Rows.boot_dict (da_cons (d_listZip (da_cons (d_var 0) (da_cons (d_var 3) da_nil))) da_nil))))
    (dss_cons (ds_set 5 (d_gc (d_ty h_tuple PyProof.Rows.boot_tuple (da_cons (d_lc [("atom", 7)] (di_seq (d_var 1)) (dg_var 7) dts_nil (d_gc (d_fn 11 (da_cons (d_fn 9 (da_cons (d_ix (d_var 7) d_int) (da_cons (d_var 4) da_nil))) da_nil)))) da_nil))))
    (dss_one (ds_ret (d_tup (da_cons (d_var 5) (da_cons (d_fn 31 (da_cons (d_var 1) (da_cons (d_var 2) (da_cons (d_var 4) (da_cons (d_var 5) da_nil))))) da_nil)))))))))
/-- slots: 0 script, 1 many, 2 draws, 3 seed, 4 cell, 5 number, 6 k -/
noncomputable def b__law_draws : Sv G :=
  (sSeq (sSet (eGc (eLst aNil)) (gVar 2))
    (sSeq (sSet (eC (.int 7)) (gVar 3))
    (sSeq (sFor (iSeq (eGc (eSl (eVar 0) pNo (pSo (eC (.int 63)))))) (gVar 4) (sSeq (sSet (eB cAbs (aCons (eVar 4) aNil)) (gVar 5))
    (sSeq (sSet (o2 vMod (eB cInt (aCons (o2 vAdd (o2 vAdd (o2 vMul (eVar 3) (eC (.int 48271))) (eVar 5)) (eC (.int 11))) aNil)) (eC (.int 2147483647))) (gVar 3))
    (sT (qVal (o2 vGe (eVar 5) (o2 vPow (eC (.int 10)) (eC (.int 18))))) (sFor (iRange rg1 (aCons (eC (.int 60)) aNil)) (gVar 6) (sT (qVal (o2 vGt (eVar 5) (eC (.int 0)))) (sSeq (sDrop (oM isLst vApp (eVar 2) (aCons (o2 vMod (eB cInt (aCons (eVar 5) aNil)) (eC (.int 1009))) aNil)))
    (sSet (o2 vDiv (eVar 5) (eC (.int 1009))) (gVar 5))) sNext)) (sDrop (oM isLst vApp (eVar 2) (aCons (o2 vMod (o2 vDiv (eB cInt (aCons (o2 vAdd (o2 vMul (eVar 3) (eC (.int 16807))) (eC (.int 5))) aNil)) (eC (.int 3))) (eC (.int 65521))) aNil)))))))
    (sSeq (sFor (iRange rg1 (aCons (eVar 1) aNil)) (gVar 6) (sT (qVal (o2 vLt (eB cLen (aCons (eVar 2) aNil)) (eVar 1))) (sSeq (sSet (o2 vMod (eB cInt (aCons (o2 vAdd (o2 vAdd (o2 vMul (eVar 3) (eC (.int 69621))) (eVar 6)) (eC (.int 1))) aNil)) (eC (.int 2147483647))) (gVar 3))
    (sDrop (oM isLst vApp (eVar 2) (aCons (o2 vMod (o2 vDiv (eB cInt (aCons (eVar 3) aNil)) (eC (.int 7))) (eC (.int 65521))) aNil)))) sNext))
    (sRet (eSl (eVar 2) pNo (pSo (eVar 1))))))))
theorem sc__law_draws : FnScope ["script", "many", "draws", "seed", "cell", "number", "k"] ["script", "many"] (defScope s__law_draws) := ⟨rfl, rfl, rfl, by decide +kernel, rfl, by decide +kernel, by decide +kernel⟩
theorem ok__law_draws : DSs G (fnS ["script", "many", "draws", "seed", "cell", "number", "k"] (defScope s__law_draws)) (defBody s__law_draws) b__law_draws :=
  (dss_cons (ds_set 2 (d_gc (d_lst da_nil)))
    (dss_cons (ds_set 3 d_int)
    (dss_cons (ds_for (di_seq (d_gc (d_sl (d_var 0) dp_no (dp_so d_int)))) (dg_var 4) (dss_cons (ds_set 5 (d_blt h_abs PyProof.Rows.boot_abs (da_cons (d_var 4) da_nil)))
    (dss_cons (ds_set 3 (d_op h_mod (d_ty h_int PyProof.Rows.boot_int (da_cons (d_op h_add (d_op h_add (d_op h_mul (d_var 3) d_int) (d_var 5)) d_int) da_nil)) d_int))
    (dss_one (ds_if (dt_cmp h_ge (d_var 5) (d_op h_pow d_int d_int)) (dss_one (ds_for (di_rg1 (da_cons d_int da_nil)) (dg_var 6) (dss_one (ds_if (dt_cmp h_gt (d_var 5) d_int) (dss_cons (ds_expr (d_app (d_var 2) (da_cons (d_op h_mod (d_ty h_int PyProof.Rows.boot_int (da_cons (d_var 5) da_nil)) d_int) da_nil)))
    (dss_one (ds_set 5 (d_op h_div (d_var 5) d_int)))) dss_nil)))) (dss_one (ds_expr (d_app (d_var 2) (da_cons (d_op h_mod (d_op h_div (d_ty h_int PyProof.Rows.boot_int (da_cons (d_op h_add (d_op h_mul (d_var 3) d_int) d_int) da_nil)) d_int) d_int) da_nil)))))))))
    (dss_cons (ds_for (di_rg1 (da_cons (d_var 1) da_nil)) (dg_var 6) (dss_one (ds_if (dt_cmp h_lt (d_blt h_len PySem.boot_len (da_cons (d_var 2) da_nil)) (d_var 1)) (dss_cons (ds_set 3 (d_op h_mod (d_ty h_int PyProof.Rows.boot_int (da_cons (d_op h_add (d_op h_add (d_op h_mul (d_var 3) d_int) (d_var 6)) d_int) da_nil)) d_int))
    (dss_one (ds_expr (d_app (d_var 2) (da_cons (d_op h_mod (d_op h_div (d_ty h_int PyProof.Rows.boot_int (da_cons (d_var 3) da_nil)) d_int) d_int) da_nil))))) dss_nil)))
    (dss_one (ds_ret (d_sl (d_var 2) dp_no (dp_so (d_var 1)))))))))
/-- slots: 0 form, 1 forms, 2 parts, 3 constant_v, 4 name, 5 factor, 6 own, 7 other, 8 inner -/
noncomputable def b__law_put : Sv G :=
  (sSeq (sSet (eGc (eTup (aCons (eDic0 (G := G)) (aCons (o2 vIx (eVar 0) (eC (.int 0))) aNil)))) (gTupG 2 (gConsG (gVar 2) (gConsG (gVar 3) gNilG))))
    (sSeq (sFor (iSeq (o2 vIx (eVar 0) (eC (.int 1)))) (gTupG 2 (gConsG (gVar 4) (gConsG (gVar 5) gNilG))) (sSeq (sSet (oM isDic kGet2 (eVar 1) (aCons (eVar 4) (aCons (eTup (aCons (eC (.int 0)) (aCons (eTup (aCons (eTup (aCons (eVar 4) (aCons (eC (.int 1)) aNil))) aNil)) aNil))) aNil))) (gVar 6))
    (sSeq (sSet (o2 vAdd (eVar 3) (o2 vMul (eVar 5) (o2 vIx (eVar 6) (eC (.int 0))))) (gVar 3))
    (sFor (iSeq (o2 vIx (eVar 6) (eC (.int 1)))) (gTupG 2 (gConsG (gVar 7) (gConsG (gVar 8) gNilG))) (sPut (o2 vAdd (oM isDic kGet2 (eVar 2) (aCons (eVar 7) (aCons (eC (.int 0)) aNil))) (o2 vMul (eVar 5) (eVar 8))) (eVar 2) (eVar 7))))))
    (sRet (eTup (aCons (eVar 3) (aCons (eB cTuple (aCons (eLc (iSeq (eB cSorted (aCons (eVar 2) aNil))) (gVar 4) (qVal (o2 vNe (o2 vIx (eVar 2) (eVar 4)) (eC (.int 0)))) (eTup (aCons (eVar 4) (aCons (o2 vIx (eVar 2) (eVar 4)) aNil))) [4]) aNil)) aNil))))))
theorem sc__law_put : FnScope ["form", "forms", "parts", "constant_v", "name", "factor", "own", "other", "inner"] ["form", "forms"] (defScope s__law_put) := ⟨rfl, rfl, rfl, by decide +kernel, rfl, by decide +kernel, by decide +kernel⟩
theorem ok__law_put : DSs G (fnS ["form", "forms", "parts", "constant_v", "name", "factor", "own", "other", "inner"] (defScope s__law_put)) (defBody s__law_put) b__law_put :=
  (dss_cons (ds_asg (d_gc (d_tup (da_cons d_dic0 (da_cons (d_ix (d_var 0) d_int) da_nil)))) (dg_tup (dgs_cons (dg_var 2) (dgs_cons (dg_var 3) dgs_nil))))
    (dss_cons (ds_for (di_seq (d_ix (d_var 0) d_int)) (dg_tup (dgs_cons (dg_var 4) (dgs_cons (dg_var 5) dgs_nil))) (dss_cons (ds_set 6 (d_get2 (d_var 1) (d_var 4) (d_tup (da_cons d_int (da_cons (d_tup (da_cons (d_tup (da_cons (d_var 4) (da_cons d_int da_nil))) da_nil)) da_nil)))))
    (dss_cons (ds_set 3 (d_op h_add (d_var 3) (d_op h_mul (d_var 5) (d_ix (d_var 6) d_int))))
    (dss_one (ds_for (di_seq (d_ix (d_var 6) d_int)) (dg_tup (dgs_cons (dg_var 7) (dgs_cons (dg_var 8) dgs_nil))) (dss_one (ds_put (d_op h_add (d_get2 (d_var 2) (d_var 7) d_int) (d_op h_mul (d_var 5) (d_var 8))) (d_var 2) (d_var 7))))))))
    (dss_one (ds_ret (d_tup (da_cons (d_var 3) (da_cons (d_ty h_tuple PyProof.Rows.boot_tuple (da_cons (d_lc [("name", 4)] (di_seq (d_blt h_sorted PyProof.Rows.boot_sorted (da_cons (d_var 2) da_nil))) (dg_var 4) (dts_one (dt_cmp h_ne (d_ix (d_var 2) (d_var 4)) d_int)) (d_tup (da_cons (d_var 4) (da_cons (d_ix (d_var 2) (d_var 4)) da_nil)))) da_nil)) da_nil)))))))
/-- slots: 0 one, 1 other -/
noncomputable def b__law_divisor : Sv G :=
  (sSeq (sWhile (qVal (o2 vGt (eVar 1) (eC (.int 0)))) (sPar (aCons (eVar 1) (aCons (o2 vMod (eVar 0) (eVar 1)) aNil)) [0, 1]))
    (sRet (eVar 0)))
theorem sc__law_divisor : FnScope ["one", "other"] ["one", "other"] (defScope s__law_divisor) := ⟨rfl, rfl, rfl, by decide +kernel, rfl, by decide +kernel, by decide +kernel⟩
theorem ok__law_divisor : DSs G (fnS ["one", "other"] (defScope s__law_divisor)) (defBody s__law_divisor) b__law_divisor :=
  (dss_cons (ds_while (dt_cmp h_gt (d_var 1) d_int) (dss_one (ds_par 0 1 (da_cons (d_var 1) (da_cons (d_op h_mod (d_var 0) (d_var 1)) da_nil)))))
    (dss_one (ds_ret (d_var 0))))
/-- slots: 0 form, 1 shared, 2 name, 3 factor -/
noncomputable def b__law_normal : Sv G :=
  (sSeq (sSet (eC (.int 0)) (gVar 1))
    (sSeq (sFor (iSeq (o2 vIx (eVar 0) (eC (.int 1)))) (gTupG 2 (gConsG (gVar 2) (gConsG (gVar 3) gNilG))) (sSet (eFn (G := G) .f__law_divisor (aCons (eB cMax (aCons (eVar 1) (aCons (eB cAbs (aCons (eVar 3) aNil)) aNil))) (aCons (eB cMin (aCons (eVar 1) (aCons (eB cAbs (aCons (eVar 3) aNil)) aNil))) aNil))) (gVar 1)))
    (sSeq (sT (qVal (o2 vEq (eVar 1) (eC (.int 0)))) (sRet (eTup (aCons (eC (.str ("least" : Str))) (aCons (eTup (aCons (eIf (qVal (o2 vGe (o2 vIx (eVar 0) (eC (.int 0))) (eC (.int 0)))) (eC (.int 0)) (o1 vNeg (eC (.int 1)))) (aCons (eTup aNil) aNil))) aNil)))) sNext)
    (sRet (eTup (aCons (eC (.str ("least" : Str))) (aCons (eTup (aCons (o2 vDiv (o2 vIx (eVar 0) (eC (.int 0))) (eVar 1)) (aCons (eB cTuple (aCons (eLc (iSeq (o2 vIx (eVar 0) (eC (.int 1)))) (gTupG 2 (gConsG (gVar 2) (gConsG (gVar 3) gNilG))) qYes (eTup (aCons (eVar 2) (aCons (o2 vDiv (eVar 3) (eVar 1)) aNil))) [2, 3]) aNil)) aNil))) aNil)))))))
theorem sc__law_normal : FnScope ["form", "shared", "name", "factor"] ["form"] (defScope s__law_normal) := ⟨rfl, rfl, rfl, by decide +kernel, rfl, by decide +kernel, by decide +kernel⟩
theorem ok__law_normal : DSs G (fnS ["form", "shared", "name", "factor"] (defScope s__law_normal)) (defBody s__law_normal) b__law_normal :=
  (dss_cons (ds_set 1 d_int)
    (dss_cons (ds_for (di_seq (d_ix (d_var 0) d_int)) (dg_tup (dgs_cons (dg_var 2) (dgs_cons (dg_var 3) dgs_nil))) (dss_one (ds_set 1 (d_fn 35 (da_cons (d_blt h_max PyProof.Rows.boot_max (da_cons (d_var 1) (da_cons (d_blt h_abs PyProof.Rows.boot_abs (da_cons (d_var 3) da_nil)) da_nil))) (da_cons (d_blt h_min PyProof.Rows.boot_min (da_cons (d_var 1) (da_cons (d_blt h_abs PyProof.Rows.boot_abs (da_cons (d_var 3) da_nil)) da_nil))) da_nil))))))
    (dss_cons (ds_if (dt_cmp h_eq (d_var 1) d_int) (dss_one (ds_ret (d_tup (da_cons d_str (da_cons (d_tup (da_cons (d_if (dt_cmp h_ge (d_ix (d_var 0) d_int) d_int) d_int (d_neg d_int)) (da_cons (d_tup da_nil) da_nil))) da_nil))))) dss_nil)
    (dss_one (ds_ret (d_tup (da_cons d_str (da_cons (d_tup (da_cons (d_op h_div (d_ix (d_var 0) d_int) (d_var 1)) (da_cons (d_ty h_tuple PyProof.Rows.boot_tuple (da_cons (d_lc [("name", 2), ("factor", 3)] (di_seq (d_ix (d_var 0) d_int)) (dg_tup (dgs_cons (dg_var 2) (dgs_cons (dg_var 3) dgs_nil))) dts_nil (d_tup (da_cons (d_var 2) (da_cons (d_op h_div (d_var 3) (d_var 1)) da_nil)))) da_nil)) da_nil))) da_nil))))))))
/-- slots: 0 draws, 1 low, 2 rows, 3 k, 4 name, 5 other, 6 row -/
noncomputable def b__law_atoms : Sv G :=
  (sSeq (sSet (o2 vAdd (eC (.int 1)) (o2 vMod (eB cInt (aCons (o2 vIx (eVar 0) (eC (.int 0))) aNil)) (eC (.int 3)))) (gVar 1))
    (sSeq (sSet (eGc (eLc (iEnum2 (aCons (eTup (aCons (eTup (aCons (eC (.str ("p" : Str))) (aCons (eC (.str ("o" : Str))) aNil))) (aCons (eTup (aCons (eC (.str ("o" : Str))) (aCons (eC (.str ("q" : Str))) aNil))) (aCons (eTup (aCons (eC (.str ("q" : Str))) (aCons (eC (.str ("p" : Str))) aNil))) aNil)))) aNil)) (gTupG 2 (gConsG (gVar 3) (gConsG (gTupG 2 (gConsG (gVar 4) (gConsG (gVar 5) gNilG))) gNilG))) qYes (eGc (eTup (aCons (eIf (qVal (o2 vEq (eVar 3) (eC (.int 0)))) (o1 vNeg (eVar 1)) (eC (.int 0))) (aCons (eB cTuple (aCons (eB cSortD (aCons (eLst (aCons (eTup (aCons (eVar 4) (aCons (eC (.int 1)) aNil))) (aCons (eTup (aCons (eVar 5) (aCons (o1 vNeg (eC (.int 1))) aNil))) aNil))) aNil)) aNil)) aNil)))) [3, 4, 5])) (gVar 2))
    (sRet (eB cTuple (aCons (eLc (iSeq (eVar 2)) (gVar 6) qYes (eTup (aCons (eC (.str ("least" : Str))) (aCons (eVar 6) aNil))) [6]) aNil)))))
theorem sc__law_atoms : FnScope ["draws", "low", "rows", "k", "name", "other", "row"] ["draws"] (defScope s__law_atoms) := ⟨rfl, rfl, rfl, by decide +kernel, rfl, by decide +kernel, by decide +kernel⟩
theorem ok__law_atoms : DSs G (fnS ["draws", "low", "rows", "k", "name", "other", "row"] (defScope s__law_atoms)) (defBody s__law_atoms) b__law_atoms :=
  (dss_cons (ds_set 1 (d_op h_add d_int (d_op h_mod (d_ty h_int PyProof.Rows.boot_int (da_cons (d_ix (d_var 0) d_int) da_nil)) d_int)))
    (dss_cons (ds_setLc 2 [("k", 3), ("name", 4), ("other", 5)] (di_enum2 (da_cons (d_tup (da_cons (d_tup (da_cons d_str (da_cons d_str da_nil))) (da_cons (d_tup (da_cons d_str (da_cons d_str da_nil))) (da_cons (d_tup (da_cons d_str (da_cons d_str da_nil))) da_nil)))) da_nil)) (dg_tup (dgs_cons (dg_var 3) (dgs_cons (dg_tup (dgs_cons (dg_var 4) (dgs_cons (dg_var 5) dgs_nil))) dgs_nil))) dts_nil (d_gc (d_tup (da_cons (d_if (dt_cmp h_eq (d_var 3) d_int) (d_neg (d_var 1)) d_int) (da_cons (d_ty h_tuple PyProof.Rows.boot_tuple (da_cons (d_blt h_sortD PyProof.Rows.boot_sorted (da_cons (d_lst (da_cons (d_tup (da_cons (d_var 4) (da_cons d_int da_nil))) (da_cons (d_tup (da_cons (d_var 5) (da_cons (d_neg d_int) da_nil))) da_nil))) da_nil)) da_nil)) da_nil)))))
    (dss_one (ds_ret (d_ty h_tuple PyProof.Rows.boot_tuple (da_cons (d_lc [("row", 6)] (di_seq (d_var 2)) (dg_var 6) dts_nil (d_tup (da_cons d_str (da_cons (d_var 6) da_nil)))) da_nil))))))
/-- slots: 0 draws, 1 kind, 2 number -/
noncomputable def b__law_form : Sv G :=
  (sSeq (sPar (aCons (o2 vMod (eB cInt (aCons (o2 vIx (eVar 0) (eC (.int 0))) aNil)) (eC (.int 5))) (aCons (o2 vSub (o2 vMod (eB cInt (aCons (o2 vIx (eVar 0) (eC (.int 1))) aNil)) (eC (.int 7))) (eC (.int 3))) aNil)) [1, 2])
    (sSeq (sT (qVal (o2 vEq (eVar 1) (eC (.int 0)))) (sRet (eTup (aCons (eVar 2) (aCons (eTup aNil) aNil)))) sNext)
    (sSeq (sT (qVal (o2 vLt (eVar 1) (eC (.int 3)))) (sRet (eTup (aCons (eVar 2) (aCons (eTup (aCons (eTup (aCons (o2 vIx (eC (.str ("abopq" : Str))) (o2 vMod (eB cInt (aCons (o2 vIx (eVar 0) (eC (.int 2))) aNil)) (eC (.int 5)))) (aCons (o2 vIx (eLst (aCons (eC (.int 2)) (aCons (o1 vNeg (eC (.int 2))) (aCons (eC (.int 4)) (aCons (eC (.int 6)) (aCons (o1 vNeg (eC (.int 1))) aNil)))))) (o2 vMod (eB cInt (aCons (o2 vIx (eVar 0) (eC (.int 3))) aNil)) (eC (.int 5)))) aNil))) aNil)) aNil)))) sNext)
    (sRet (eTup (aCons (eVar 2) (aCons (eTup (aCons (eTup (aCons (eC (.str ("a" : Str))) (aCons (o2 vIx (eLst (aCons (eC (.int 2)) (aCons (eC (.int 4)) (aCons (o1 vNeg (eC (.int 6))) aNil)))) (o2 vMod (eB cInt (aCons (o2 vIx (eVar 0) (eC (.int 2))) aNil)) (eC (.int 3)))) aNil))) (aCons (eTup (aCons (o2 vIx (eC (.str ("pq" : Str))) (o2 vMod (eB cInt (aCons (o2 vIx (eVar 0) (eC (.int 3))) aNil)) (eC (.int 2)))) (aCons (o2 vIx (eLst (aCons (eC (.int 2)) (aCons (o1 vNeg (eC (.int 4))) (aCons (eC (.int 3)) (aCons (eC (.int 8)) aNil))))) (o2 vMod (eB cInt (aCons (o2 vIx (eVar 0) (eC (.int 4))) aNil)) (eC (.int 4)))) aNil))) aNil))) aNil)))))))
theorem sc__law_form : FnScope ["draws", "kind", "number"] ["draws"] (defScope s__law_form) := ⟨rfl, rfl, rfl, by decide +kernel, rfl, by decide +kernel, by decide +kernel⟩
theorem ok__law_form : DSs G (fnS ["draws", "kind", "number"] (defScope s__law_form)) (defBody s__law_form) b__law_form :=
  (dss_cons (ds_par 1 2 (da_cons (d_op h_mod (d_ty h_int PyProof.Rows.boot_int (da_cons (d_ix (d_var 0) d_int) da_nil)) d_int) (da_cons (d_op h_sub (d_op h_mod (d_ty h_int PyProof.Rows.boot_int (da_cons (d_ix (d_var 0) d_int) da_nil)) d_int) d_int) da_nil)))
    (dss_cons (ds_if (dt_cmp h_eq (d_var 1) d_int) (dss_one (ds_ret (d_tup (da_cons (d_var 2) (da_cons (d_tup da_nil) da_nil))))) dss_nil)
    (dss_cons (ds_if (dt_cmp h_lt (d_var 1) d_int) (dss_one (ds_ret (d_tup (da_cons (d_var 2) (da_cons (d_tup (da_cons (d_tup (da_cons (d_ix d_str (d_op h_mod (d_ty h_int PyProof.Rows.boot_int (da_cons (d_ix (d_var 0) d_int) da_nil)) d_int)) (da_cons (d_ix (d_lst (da_cons d_int (da_cons (d_neg d_int) (da_cons d_int (da_cons d_int (da_cons (d_neg d_int) da_nil)))))) (d_op h_mod (d_ty h_int PyProof.Rows.boot_int (da_cons (d_ix (d_var 0) d_int) da_nil)) d_int)) da_nil))) da_nil)) da_nil))))) dss_nil)
    (dss_one (ds_ret (d_tup (da_cons (d_var 2) (da_cons (d_tup (da_cons (d_tup (da_cons d_str (da_cons (d_ix (d_lst (da_cons d_int (da_cons d_int (da_cons (d_neg d_int) da_nil)))) (d_op h_mod (d_ty h_int PyProof.Rows.boot_int (da_cons (d_ix (d_var 0) d_int) da_nil)) d_int)) da_nil))) (da_cons (d_tup (da_cons (d_ix d_str (d_op h_mod (d_ty h_int PyProof.Rows.boot_int (da_cons (d_ix (d_var 0) d_int) da_nil)) d_int)) (da_cons (d_ix (d_lst (da_cons d_int (da_cons (d_neg d_int) (da_cons d_int (da_cons d_int da_nil))))) (d_op h_mod (d_ty h_int PyProof.Rows.boot_int (da_cons (d_ix (d_var 0) d_int) da_nil)) d_int)) da_nil))) da_nil))) da_nil))))))))
/-- slots: 0 form, 1 found, 2 name, 3 factor -/
noncomputable def b__law_scale : Sv G :=
  (sSeq (sSet (eC (.int 0)) (gVar 1))
    (sSeq (sFor (iSeq (o2 vIx (eVar 0) (eC (.int 1)))) (gTupG 2 (gConsG (gVar 2) (gConsG (gVar 3) gNilG))) (sSet (eFn (G := G) .f__law_divisor (aCons (eB cMax (aCons (eVar 1) (aCons (eB cAbs (aCons (eVar 3) aNil)) aNil))) (aCons (eB cMin (aCons (eVar 1) (aCons (eB cAbs (aCons (eVar 3) aNil)) aNil))) aNil))) (gVar 1)))
    (sRet (eB cMax (aCons (eVar 1) (aCons (eC (.int 1)) aNil))))))
theorem sc__law_scale : FnScope ["form", "found", "name", "factor"] ["form"] (defScope s__law_scale) := ⟨rfl, rfl, rfl, by decide +kernel, rfl, by decide +kernel, by decide +kernel⟩
theorem ok__law_scale : DSs G (fnS ["form", "found", "name", "factor"] (defScope s__law_scale)) (defBody s__law_scale) b__law_scale :=
  (dss_cons (ds_set 1 d_int)
    (dss_cons (ds_for (di_seq (d_ix (d_var 0) d_int)) (dg_tup (dgs_cons (dg_var 2) (dgs_cons (dg_var 3) dgs_nil))) (dss_one (ds_set 1 (d_fn 35 (da_cons (d_blt h_max PyProof.Rows.boot_max (da_cons (d_var 1) (da_cons (d_blt h_abs PyProof.Rows.boot_abs (da_cons (d_var 3) da_nil)) da_nil))) (da_cons (d_blt h_min PyProof.Rows.boot_min (da_cons (d_var 1) (da_cons (d_blt h_abs PyProof.Rows.boot_abs (da_cons (d_var 3) da_nil)) da_nil))) da_nil))))))
    (dss_one (ds_ret (d_blt h_max PyProof.Rows.boot_max (da_cons (d_var 1) (da_cons d_int da_nil)))))))
/-- slots: 0 names, 1 atoms, 2 forms, 3 known, 4 put, 5 rows, 6 never, 7 k, 8 atom, 9 form -/
noncomputable def b__law_due : Sv G :=
  (sSeq (sSet (eGc (eB cDict (aCons (eLc (iRange rg1 (aCons (eC (.int 3)) aNil)) (gVar 7) qYes (eTup (aCons (o2 vIx (eVar 0) (eVar 7)) (aCons (o2 vIx (eVar 2) (eVar 7)) aNil))) [7]) aNil))) (gVar 3))
    (sSeq (sSet (eGc (eLc (iSeq (eVar 1)) (gVar 8) qYes (eFn (G := G) .f__law_put (aCons (o2 vIx (eVar 8) (eC (.int 1))) (aCons (eVar 3) aNil))) [8])) (gVar 4))
    (sSeq (sSet (eGc (eB cTuple (aCons (eLc (iSeq (eVar 4)) (gVar 9) qYes (eFn (G := G) .f__law_normal (aCons (eVar 9) aNil)) [9]) aNil))) (gVar 5))
    (sSeq (sSet (eGc (eLc (iRange rg1 (aCons (eC (.int 3)) aNil)) (gVar 7) (qVal (o2 vEq (o2 vIx (eVar 5) (eVar 7)) (eTup (aCons (eC (.str ("least" : Str))) (aCons (eTup (aCons (o1 vNeg (eC (.int 1))) (aCons (eTup aNil) aNil))) aNil))))) (eVar 7) [7])) (gVar 6))
    (sSeq (sT (qVal (o2 vGt (eB cLen (aCons (eVar 6) aNil)) (eC (.int 0)))) (sRet (eTup (aCons (eVar 5) (aCons (eTup (aCons (eTup (aCons (eC (.str ("false" : Str))) (aCons (o2 vIx (eVar 6) (eC (.int 0))) aNil))) aNil)) aNil)))) sNext)
    (sRet (eTup (aCons (eVar 5) (aCons (eTup (aCons (eTup (aCons (eC (.str ("sum" : Str))) (aCons (eB cTuple (aCons (eLc (iRange rg1 (aCons (eC (.int 3)) aNil)) (gVar 7) qYes (eGc (eTup (aCons (eVar 7) (aCons (eFn (G := G) .f__law_scale (aCons (o2 vIx (eVar 4) (eVar 7)) aNil)) aNil)))) [7]) aNil)) aNil))) (aCons (eTup (aCons (eC (.str ("false" : Str))) (aCons (eC (.int 3)) aNil))) aNil))) aNil)))))))))
theorem sc__law_due : FnScope ["names", "atoms", "forms", "known", "put", "rows", "never", "k", "atom", "form"] ["names", "atoms", "forms"] (defScope s__law_due) := ⟨rfl, rfl, rfl, by decide +kernel, rfl, by decide +kernel, by decide +kernel⟩
theorem ok__law_due : DSs G (fnS ["names", "atoms", "forms", "known", "put", "rows", "never", "k", "atom", "form"] (defScope s__law_due)) (defBody s__law_due) b__law_due :=
  (dss_cons (ds_set 3 (d_gc (d_ty h_dict PyProof.Rows.boot_dict (da_cons (d_lc [("k", 7)] (di_rg1 (da_cons d_int da_nil)) (dg_var 7) dts_nil (d_tup (da_cons (d_ix (d_var 0) (d_var 7)) (da_cons (d_ix (d_var 2) (d_var 7)) da_nil)))) da_nil))))
    (dss_cons (ds_set 4 (d_gc (d_lc [("atom", 8)] (di_seq (d_var 1)) (dg_var 8) dts_nil (d_fn 34 (da_cons (d_ix (d_var 8) d_int) (da_cons (d_var 3) da_nil))))))
    (dss_cons (ds_set 5 (d_gc (d_ty h_tuple PyProof.Rows.boot_tuple (da_cons (d_lc [("form", 9)] (di_seq (d_var 4)) (dg_var 9) dts_nil (d_fn 36 (da_cons (d_var 9) da_nil))) da_nil))))
    (dss_cons (ds_setLc 6 [("k", 7)] (di_rg1 (da_cons d_int da_nil)) (dg_var 7) (dts_one (dt_cmp h_eq (d_ix (d_var 5) (d_var 7)) (d_tup (da_cons d_str (da_cons (d_tup (da_cons (d_neg d_int) (da_cons (d_tup da_nil) da_nil))) da_nil))))) (d_var 7))
    (dss_cons (ds_if (dt_cmp h_gt (d_blt h_len PySem.boot_len (da_cons (d_var 6) da_nil)) d_int) (dss_one (ds_ret (d_tup (da_cons (d_var 5) (da_cons (d_tup (da_cons (d_tup (da_cons d_str (da_cons (d_ix (d_var 6) d_int) da_nil))) da_nil)) da_nil))))) dss_nil)
    (dss_one (ds_ret (d_tup (da_cons (d_var 5) (da_cons (d_tup (da_cons (d_tup (da_cons d_str (da_cons (d_ty h_tuple PyProof.Rows.boot_tuple (da_cons (d_lc [("k", 7)] (di_rg1 (da_cons d_int da_nil)) (dg_var 7) dts_nil (d_gc (d_tup (da_cons (d_var 7) (da_cons (d_fn 39 (da_cons (d_ix (d_var 4) (d_var 7)) da_nil)) da_nil))))) da_nil)) da_nil))) (da_cons (d_tup (da_cons d_str (da_cons d_int da_nil))) da_nil))) da_nil))))))))))
/-- slots: 0 script, 1 draws, 2 paper, 3 turn, 4 names, 5 atoms, 6 forms, 7 told, 8 k -/
noncomputable def b_law : Sv G :=
  (sSeq (sSet (eFn (G := G) .f__law_draws (aCons (eVar 0) (aCons (eC (.int 70)) aNil))) (gVar 1))
    (sSeq (sSet (eTup (aCons (eTup (aCons (eC (.str ("sum" : Str))) (aCons (eTup (aCons (eTup (aCons (eC (.int 0)) (aCons (eC (.int 1)) aNil))) (aCons (eTup (aCons (eC (.int 1)) (aCons (eC (.int 1)) aNil))) (aCons (eTup (aCons (eC (.int 2)) (aCons (eC (.int 1)) aNil))) aNil)))) aNil))) (aCons (eTup (aCons (eC (.str ("false" : Str))) (aCons (eC (.int 3)) aNil))) aNil))) (gVar 2))
    (sSeq (sFor (iRange rg1 (aCons (eC (.int 5)) aNil)) (gVar 3) (sSeq (sSet (o2 vIx (eTup (aCons (eTup (aCons (eC (.str ("q" : Str))) (aCons (eC (.str ("p" : Str))) (aCons (eC (.str ("o" : Str))) aNil)))) (aCons (eTup (aCons (eC (.str ("o" : Str))) (aCons (eC (.str ("q" : Str))) (aCons (eC (.str ("p" : Str))) aNil)))) (aCons (eTup (aCons (eC (.str ("p" : Str))) (aCons (eC (.str ("q" : Str))) (aCons (eC (.str ("o" : Str))) aNil)))) (aCons (eTup (aCons (eC (.str ("o" : Str))) (aCons (eC (.str ("p" : Str))) (aCons (eC (.str ("q" : Str))) aNil)))) aNil))))) (o2 vMod (eB cInt (aCons (o2 vIx (eVar 1) (eVar 3)) aNil)) (eC (.int 4)))) (gVar 4))
    (sSeq (sSet (eGc (eFn (G := G) .f__law_atoms (aCons (eSl (eVar 1) (pSo (o2 vAdd (eC (.int 5)) (o2 vMul (eC (.int 4)) (eVar 3)))) pNo) aNil))) (gVar 5))
    (sSeq (sT (qGc (qVal (o2 vNotN (eFn (G := G) .f_refutation_fault (aCons (eVar 4) (aCons (eC .non) (aCons (eVar 5) (aCons (eVar 2) aNil))))) (eC .non)))) (sRet (eC (.bl false))) sNext)
    (sSeq (sSet (eGc (eB cTuple (aCons (eLc (iRange rg1 (aCons (eC (.int 3)) aNil)) (gVar 8) qYes (eGc (eFn (G := G) .f__law_form (aCons (eSl (eVar 1) (pSo (o2 vAdd (o2 vAdd (eC (.int 25)) (o2 vMul (eC (.int 6)) (eVar 3))) (o2 vMul (eC (.int 5)) (eVar 8)))) pNo) aNil))) [8]) aNil))) (gVar 6))
    (sSeq (sSet (eFn (G := G) .f_refutation_called (aCons (eVar 4) (aCons (eVar 5) (aCons (eVar 2) (aCons (eVar 6) aNil))))) (gVar 7))
    (sT (qGc (qOr (qVal (o2 vNe (eVar 7) (eFn (G := G) .f__law_due (aCons (eVar 4) (aCons (eVar 5) (aCons (eVar 6) aNil)))))) (qVal (o2 vNotN (eFn (G := G) .f_refutation_fault (aCons (eTup (aCons (eC (.str ("a" : Str))) (aCons (eC (.str ("b" : Str))) (aCons (eC (.str ("o" : Str))) (aCons (eC (.str ("p" : Str))) (aCons (eC (.str ("q" : Str))) aNil)))))) (aCons (eC .non) (aCons (o2 vIx (eVar 7) (eC (.int 0))) (aCons (o2 vIx (eVar 7) (eC (.int 1))) aNil))))) (eC .non))))) (sRet (eC (.bl false))) sNext)))))))
    (sRet (eC (.bl true))))))
theorem sc_law : FnScope ["script", "draws", "paper", "turn", "names", "atoms", "forms", "told", "k"] ["script"] (defScope s_law) := ⟨rfl, rfl, rfl, by decide +kernel, rfl, by decide +kernel, by decide +kernel⟩
theorem ok_law : DSs G (fnS ["script", "draws", "paper", "turn", "names", "atoms", "forms", "told", "k"] (defScope s_law)) (defBody s_law) b_law :=
  (dss_cons (ds_set 1 (d_fn 33 (da_cons (d_var 0) (da_cons d_int da_nil))))
    (dss_cons (ds_set 2 (d_tup (da_cons (d_tup (da_cons d_str (da_cons (d_tup (da_cons (d_tup (da_cons d_int (da_cons d_int da_nil))) (da_cons (d_tup (da_cons d_int (da_cons d_int da_nil))) (da_cons (d_tup (da_cons d_int (da_cons d_int da_nil))) da_nil)))) da_nil))) (da_cons (d_tup (da_cons d_str (da_cons d_int da_nil))) da_nil))))
    (dss_cons (ds_for (di_rg1 (da_cons d_int da_nil)) (dg_var 3) (dss_cons (ds_set 4 (d_ix (d_tup (da_cons (d_tup (da_cons d_str (da_cons d_str (da_cons d_str da_nil)))) (da_cons (d_tup (da_cons d_str (da_cons d_str (da_cons d_str da_nil)))) (da_cons (d_tup (da_cons d_str (da_cons d_str (da_cons d_str da_nil)))) (da_cons (d_tup (da_cons d_str (da_cons d_str (da_cons d_str da_nil)))) da_nil))))) (d_op h_mod (d_ty h_int PyProof.Rows.boot_int (da_cons (d_ix (d_var 1) (d_var 3)) da_nil)) d_int)))
    (dss_cons (ds_set 5 (d_gc (d_fn 37 (da_cons (d_sl (d_var 1) (dp_so (d_op h_add d_int (d_op h_mul d_int (d_var 3)))) dp_no) da_nil))))
    (dss_cons (ds_if (dt_gc (dt_cmp h_isnot (d_fn 28 (da_cons (d_var 4) (da_cons d_non (da_cons (d_var 5) (da_cons (d_var 2) da_nil))))) d_non)) (dss_one (ds_ret d_bl)) dss_nil)
    (dss_cons (ds_set 6 (d_gc (d_ty h_tuple PyProof.Rows.boot_tuple (da_cons (d_lc [("k", 8)] (di_rg1 (da_cons d_int da_nil)) (dg_var 8) dts_nil (d_gc (d_fn 38 (da_cons (d_sl (d_var 1) (dp_so (d_op h_add (d_op h_add d_int (d_op h_mul d_int (d_var 3))) (d_op h_mul d_int (d_var 8)))) dp_no) da_nil)))) da_nil))))
    (dss_cons (ds_set 7 (d_fn 32 (da_cons (d_var 4) (da_cons (d_var 5) (da_cons (d_var 2) (da_cons (d_var 6) da_nil))))))
    (dss_one (ds_if (dt_gc (dt_w (dw_or (dt_cmp h_ne (d_var 7) (d_fn 40 (da_cons (d_var 4) (da_cons (d_var 5) (da_cons (d_var 6) da_nil))))) (dw_or1 (dt_cmp h_isnot (d_fn 28 (da_cons (d_tup (da_cons d_str (da_cons d_str (da_cons d_str (da_cons d_str (da_cons d_str da_nil)))))) (da_cons d_non (da_cons (d_ix (d_var 7) d_int) (da_cons (d_ix (d_var 7) d_int) da_nil))))) d_non))))) (dss_one (ds_ret d_bl)) dss_nil))))))))
    (dss_one (ds_ret d_bl)))))
noncomputable def bd : F → Sv G
  | .f_is_whole => b_is_whole
  | .f_ascends => b_ascends
  | .f_is_name => b_is_name
  | .f_is_integer => b_is_integer
  | .f_is_form => b_is_form
  | .f_constant => b_constant
  | .f_named => b_named
  | .f_combined => b_combined
  | .f_names_by => b_names_by
  | .f_put_by => b_put_by
  | .f_divisor => b_divisor
  | .f_normal_of => b_normal_of
  | .f_is_atom => b_is_atom
  | .f_best_of => b_best_of
  | .f_check_names => b_check_names
  | .f__check_box => b__check_box
  | .f_check_over => b_check_over
  | .f_bounds_by => b_bounds_by
  | .f_sum_of => b_sum_of
  | .f__are_pairs => b__are_pairs
  | .f__is_step => b__is_step
  | .f__is_paper => b__is_paper
  | .f_pushed_bounds => b_pushed_bounds
  | .f_beyond => b_beyond
  | .f_is_better => b_is_better
  | .f_is_never => b_is_never
  | .f_halves => b_halves
  | .f_Reading_init => b_Reading_init
  | .f_Reading_is_right => b_Reading_is_right
  | .f_Reading_fault => b_Reading_fault
  | .f_fault_by => b_fault_by
  | .f_refutation_fault => b_refutation_fault
  | .f_are_sums => b_are_sums
  | .f__scale => b__scale
  | .f__called => b__called
  | .f_refutation_called => b_refutation_called
  | .f__law_draws => b__law_draws
  | .f__law_put => b__law_put
  | .f__law_divisor => b__law_divisor
  | .f__law_normal => b__law_normal
  | .f__law_atoms => b__law_atoms
  | .f__law_form => b__law_form
  | .f__law_scale => b__law_scale
  | .f__law_due => b__law_due
  | .f_law => b_law
theorem bd_ok : ∀ f : F, ∃ d ∈ fn, ∃ N, DefOk G bd nF f d N
  | .f_is_whole => ⟨d_is_whole, List.mem_map.mpr ⟨.f_is_whole, all_mem _, rfl⟩, _, ⟨rfl, rfl, rfl, sc_is_whole, rfl, fun _ _ _ _ _ _ us hl => match us, hl with | [_, _, _], _ => rfl, ok_is_whole⟩⟩
  | .f_ascends => ⟨d_ascends, List.mem_map.mpr ⟨.f_ascends, all_mem _, rfl⟩, _, ⟨rfl, rfl, rfl, sc_ascends, rfl, fun _ _ _ _ _ _ us hl => match us, hl with | [_], _ => rfl, ok_ascends⟩⟩
  | .f_is_name => ⟨d_is_name, List.mem_map.mpr ⟨.f_is_name, all_mem _, rfl⟩, _, ⟨rfl, rfl, rfl, sc_is_name, rfl, fun _ _ _ _ _ _ us hl => match us, hl with | [_], _ => rfl, ok_is_name⟩⟩
  | .f_is_integer => ⟨d_is_integer, List.mem_map.mpr ⟨.f_is_integer, all_mem _, rfl⟩, _, ⟨rfl, rfl, rfl, sc_is_integer, rfl, fun _ _ _ _ _ _ us hl => match us, hl with | [_], _ => rfl, ok_is_integer⟩⟩
  | .f_is_form => ⟨d_is_form, List.mem_map.mpr ⟨.f_is_form, all_mem _, rfl⟩, _, ⟨rfl, rfl, rfl, sc_is_form, rfl, fun _ _ _ _ _ _ us hl => match us, hl with | [_], _ => rfl, ok_is_form⟩⟩
  | .f_constant => ⟨d_constant, List.mem_map.mpr ⟨.f_constant, all_mem _, rfl⟩, _, ⟨rfl, rfl, rfl, sc_constant, rfl, fun _ _ _ _ _ _ us hl => match us, hl with | [_], _ => rfl, ok_constant⟩⟩
  | .f_named => ⟨d_named, List.mem_map.mpr ⟨.f_named, all_mem _, rfl⟩, _, ⟨rfl, rfl, rfl, sc_named, rfl, fun _ _ _ _ _ _ us hl => match us, hl with | [_], _ => rfl, ok_named⟩⟩
  | .f_combined => ⟨d_combined, List.mem_map.mpr ⟨.f_combined, all_mem _, rfl⟩, _, ⟨rfl, rfl, rfl, sc_combined, rfl, fun _ _ _ _ _ _ us hl => match us, hl with | [_, _, _, _], _ => rfl, ok_combined⟩⟩
  | .f_names_by => ⟨d_names_by, List.mem_map.mpr ⟨.f_names_by, all_mem _, rfl⟩, _, ⟨rfl, rfl, rfl, sc_names_by, rfl, fun _ _ _ _ _ _ us hl => match us, hl with | [_], _ => rfl, ok_names_by⟩⟩
  | .f_put_by => ⟨d_put_by, List.mem_map.mpr ⟨.f_put_by, all_mem _, rfl⟩, _, ⟨rfl, rfl, rfl, sc_put_by, rfl, fun _ _ _ _ _ _ us hl => match us, hl with | [_, _], _ => rfl, ok_put_by⟩⟩
  | .f_divisor => ⟨d_divisor, List.mem_map.mpr ⟨.f_divisor, all_mem _, rfl⟩, _, ⟨rfl, rfl, rfl, sc_divisor, rfl, fun _ _ _ _ _ _ us hl => match us, hl with | [_, _], _ => rfl, ok_divisor⟩⟩
  | .f_normal_of => ⟨d_normal_of, List.mem_map.mpr ⟨.f_normal_of, all_mem _, rfl⟩, _, ⟨rfl, rfl, rfl, sc_normal_of, rfl, fun _ _ _ _ _ _ us hl => match us, hl with | [_], _ => rfl, ok_normal_of⟩⟩
  | .f_is_atom => ⟨d_is_atom, List.mem_map.mpr ⟨.f_is_atom, all_mem _, rfl⟩, _, ⟨rfl, rfl, rfl, sc_is_atom, rfl, fun _ _ _ _ _ _ us hl => match us, hl with | [_], _ => rfl, ok_is_atom⟩⟩
  | .f_best_of => ⟨d_best_of, List.mem_map.mpr ⟨.f_best_of, all_mem _, rfl⟩, _, ⟨rfl, rfl, rfl, sc_best_of, rfl, fun _ _ _ _ _ _ us hl => match us, hl with | [_, _, _], _ => rfl, ok_best_of⟩⟩
  | .f_check_names => ⟨d_check_names, List.mem_map.mpr ⟨.f_check_names, all_mem _, rfl⟩, _, ⟨rfl, rfl, rfl, sc_check_names, rfl, fun _ _ _ _ _ _ us hl => match us, hl with | [_], _ => rfl, ok_check_names⟩⟩
  | .f__check_box => ⟨d__check_box, List.mem_map.mpr ⟨.f__check_box, all_mem _, rfl⟩, _, ⟨rfl, rfl, rfl, sc__check_box, rfl, fun _ _ _ _ _ _ us hl => match us, hl with | [_, _], _ => rfl, ok__check_box⟩⟩
  | .f_check_over => ⟨d_check_over, List.mem_map.mpr ⟨.f_check_over, all_mem _, rfl⟩, _, ⟨rfl, rfl, rfl, sc_check_over, rfl, fun _ _ _ _ _ _ us hl => match us, hl with | [_, _], _ => rfl, ok_check_over⟩⟩
  | .f_bounds_by => ⟨d_bounds_by, List.mem_map.mpr ⟨.f_bounds_by, all_mem _, rfl⟩, _, ⟨rfl, rfl, rfl, sc_bounds_by, rfl, fun _ _ _ _ _ _ us hl => match us, hl with | [_, _], _ => rfl, ok_bounds_by⟩⟩
  | .f_sum_of => ⟨d_sum_of, List.mem_map.mpr ⟨.f_sum_of, all_mem _, rfl⟩, _, ⟨rfl, rfl, rfl, sc_sum_of, rfl, fun _ _ _ _ _ _ us hl => match us, hl with | [_, _], _ => rfl, ok_sum_of⟩⟩
  | .f__are_pairs => ⟨d__are_pairs, List.mem_map.mpr ⟨.f__are_pairs, all_mem _, rfl⟩, _, ⟨rfl, rfl, rfl, sc__are_pairs, rfl, fun _ _ _ _ _ _ us hl => match us, hl with | [_], _ => rfl, ok__are_pairs⟩⟩
  | .f__is_step => ⟨d__is_step, List.mem_map.mpr ⟨.f__is_step, all_mem _, rfl⟩, _, ⟨rfl, rfl, rfl, sc__is_step, rfl, fun _ _ _ _ _ _ us hl => match us, hl with | [_, _, _], _ => rfl, ok__is_step⟩⟩
  | .f__is_paper => ⟨d__is_paper, List.mem_map.mpr ⟨.f__is_paper, all_mem _, rfl⟩, _, ⟨rfl, rfl, rfl, sc__is_paper, rfl, fun _ _ _ _ _ _ us hl => match us, hl with | [_, _, _], _ => rfl, ok__is_paper⟩⟩
  | .f_pushed_bounds => ⟨d_pushed_bounds, List.mem_map.mpr ⟨.f_pushed_bounds, all_mem _, rfl⟩, _, ⟨rfl, rfl, rfl, sc_pushed_bounds, rfl, fun _ _ _ _ _ _ us hl => match us, hl with | [_, _, _, _], _ => rfl, ok_pushed_bounds⟩⟩
  | .f_beyond => ⟨d_beyond, List.mem_map.mpr ⟨.f_beyond, all_mem _, rfl⟩, _, ⟨rfl, rfl, rfl, sc_beyond, rfl, fun _ _ _ _ _ _ us hl => match us, hl with | [_, _, _, _], _ => rfl, ok_beyond⟩⟩
  | .f_is_better => ⟨d_is_better, List.mem_map.mpr ⟨.f_is_better, all_mem _, rfl⟩, _, ⟨rfl, rfl, rfl, sc_is_better, rfl, fun _ _ _ _ _ _ us hl => match us, hl with | [_, _, _, _], _ => rfl, ok_is_better⟩⟩
  | .f_is_never => ⟨d_is_never, List.mem_map.mpr ⟨.f_is_never, all_mem _, rfl⟩, _, ⟨rfl, rfl, rfl, sc_is_never, rfl, fun _ _ _ _ _ _ us hl => match us, hl with | [_, _], _ => rfl, ok_is_never⟩⟩
  | .f_halves => ⟨d_halves, List.mem_map.mpr ⟨.f_halves, all_mem _, rfl⟩, _, ⟨rfl, rfl, rfl, sc_halves, rfl, fun _ _ _ _ _ _ us hl => match us, hl with | [_, _, _], _ => rfl, ok_halves⟩⟩
  | .f_Reading_init => ⟨d_Reading_init, List.mem_map.mpr ⟨.f_Reading_init, all_mem _, rfl⟩, _, ⟨rfl, rfl, rfl, sc_Reading_init, rfl, fun _ _ _ _ _ _ us hl => match us, hl with | [_, _, _], _ => rfl, ok_Reading_init⟩⟩
  | .f_Reading_is_right => ⟨d_Reading_is_right, List.mem_map.mpr ⟨.f_Reading_is_right, all_mem _, rfl⟩, _, ⟨rfl, rfl, rfl, sc_Reading_is_right, rfl, fun _ _ _ _ _ _ us hl => match us, hl with | [_, _], _ => rfl, ok_Reading_is_right⟩⟩
  | .f_Reading_fault => ⟨d_Reading_fault, List.mem_map.mpr ⟨.f_Reading_fault, all_mem _, rfl⟩, _, ⟨rfl, rfl, rfl, sc_Reading_fault, rfl, fun _ _ _ _ _ _ us hl => match us, hl with | [_, _, _], _ => rfl, ok_Reading_fault⟩⟩
  | .f_fault_by => ⟨d_fault_by, List.mem_map.mpr ⟨.f_fault_by, all_mem _, rfl⟩, _, ⟨rfl, rfl, rfl, sc_fault_by, rfl, fun _ _ _ _ _ _ us hl => match us, hl with | [_, _, _, _], _ => rfl, ok_fault_by⟩⟩
  | .f_refutation_fault => ⟨d_refutation_fault, List.mem_map.mpr ⟨.f_refutation_fault, all_mem _, rfl⟩, _, ⟨rfl, rfl, rfl, sc_refutation_fault, rfl, fun _ _ _ _ _ _ us hl => match us, hl with | [_, _, _, _], _ => rfl, ok_refutation_fault⟩⟩
  | .f_are_sums => ⟨d_are_sums, List.mem_map.mpr ⟨.f_are_sums, all_mem _, rfl⟩, _, ⟨rfl, rfl, rfl, sc_are_sums, rfl, fun _ _ _ _ _ _ us hl => match us, hl with | [_], _ => rfl, ok_are_sums⟩⟩
  | .f__scale => ⟨d__scale, List.mem_map.mpr ⟨.f__scale, all_mem _, rfl⟩, _, ⟨rfl, rfl, rfl, sc__scale, rfl, fun _ _ _ _ _ _ us hl => match us, hl with | [_, _], _ => rfl, ok__scale⟩⟩
  | .f__called => ⟨d__called, List.mem_map.mpr ⟨.f__called, all_mem _, rfl⟩, _, ⟨rfl, rfl, rfl, sc__called, rfl, fun _ _ _ _ _ _ us hl => match us, hl with | [_, _, _, _], _ => rfl, ok__called⟩⟩
  | .f_refutation_called => ⟨d_refutation_called, List.mem_map.mpr ⟨.f_refutation_called, all_mem _, rfl⟩, _, ⟨rfl, rfl, rfl, sc_refutation_called, rfl, fun _ _ _ _ _ _ us hl => match us, hl with | [_, _, _, _], _ => rfl, ok_refutation_called⟩⟩
  | .f__law_draws => ⟨d__law_draws, List.mem_map.mpr ⟨.f__law_draws, all_mem _, rfl⟩, _, ⟨rfl, rfl, rfl, sc__law_draws, rfl, fun _ _ _ _ _ _ us hl => match us, hl with | [_, _], _ => rfl, ok__law_draws⟩⟩
  | .f__law_put => ⟨d__law_put, List.mem_map.mpr ⟨.f__law_put, all_mem _, rfl⟩, _, ⟨rfl, rfl, rfl, sc__law_put, rfl, fun _ _ _ _ _ _ us hl => match us, hl with | [_, _], _ => rfl, ok__law_put⟩⟩
  | .f__law_divisor => ⟨d__law_divisor, List.mem_map.mpr ⟨.f__law_divisor, all_mem _, rfl⟩, _, ⟨rfl, rfl, rfl, sc__law_divisor, rfl, fun _ _ _ _ _ _ us hl => match us, hl with | [_, _], _ => rfl, ok__law_divisor⟩⟩
  | .f__law_normal => ⟨d__law_normal, List.mem_map.mpr ⟨.f__law_normal, all_mem _, rfl⟩, _, ⟨rfl, rfl, rfl, sc__law_normal, rfl, fun _ _ _ _ _ _ us hl => match us, hl with | [_], _ => rfl, ok__law_normal⟩⟩
  | .f__law_atoms => ⟨d__law_atoms, List.mem_map.mpr ⟨.f__law_atoms, all_mem _, rfl⟩, _, ⟨rfl, rfl, rfl, sc__law_atoms, rfl, fun _ _ _ _ _ _ us hl => match us, hl with | [_], _ => rfl, ok__law_atoms⟩⟩
  | .f__law_form => ⟨d__law_form, List.mem_map.mpr ⟨.f__law_form, all_mem _, rfl⟩, _, ⟨rfl, rfl, rfl, sc__law_form, rfl, fun _ _ _ _ _ _ us hl => match us, hl with | [_], _ => rfl, ok__law_form⟩⟩
  | .f__law_scale => ⟨d__law_scale, List.mem_map.mpr ⟨.f__law_scale, all_mem _, rfl⟩, _, ⟨rfl, rfl, rfl, sc__law_scale, rfl, fun _ _ _ _ _ _ us hl => match us, hl with | [_], _ => rfl, ok__law_scale⟩⟩
  | .f__law_due => ⟨d__law_due, List.mem_map.mpr ⟨.f__law_due, all_mem _, rfl⟩, _, ⟨rfl, rfl, rfl, sc__law_due, rfl, fun _ _ _ _ _ _ us hl => match us, hl with | [_, _, _], _ => rfl, ok__law_due⟩⟩
  | .f_law => ⟨d_law, List.mem_map.mpr ⟨.f_law, all_mem _, rfl⟩, _, ⟨rfl, rfl, rfl, sc_law, rfl, fun _ _ _ _ _ _ us hl => match us, hl with | [_], _ => rfl, ok_law⟩⟩
noncomputable abbrev P : Nat → Tab G := Pl G bd nF
end Lw
namespace Dq
open PySem PySem.Spec PyProof.Rows L2
section
variable {G : Gm} {T : Tab G} {ρ : Env} {h : Hh}
@[simp] theorem x_eMeth {m : Str} {ma : Ev G} {mb : Av G} : eMeth (G := G) m ma mb T ρ h = (fun T => bnd (ma T) fun x ρ h => match mthOf G m x h with
  | some f => bnd (mb T) (fun vs _ h' => if (x :: vs).length = (G.ps f).length then T f (x :: vs) h' else .bad) ρ h
  | none => .bad) T ρ h := rfl
@[simp] theorem x_eMk {C : Str} {f : G.F} {m : Av G} : eMk (G := G) C f m T ρ h = (fun T => bnd (m T) fun vs _ h => if vs.length + 1 = (G.ps f).length then (match T f (.r h.length :: vs) (h ++ [.ins C []]) with
  | .ok (.d .non) h' => .ok (.r h.length) h'
  | .exc c h' => .exc c h'
  | _ => .bad) else .bad) T ρ h := rfl
@[simp] theorem x_iEnum2 {m : Av G} : iEnum2 (G := G) m T ρ h = (fun T => bnd (m T) fun vs _ h => match vs with
  | [v] => (match enumB2 v h with
    | some it => .ok it h
    | none => .bad)
  | _ => .bad) T ρ h := rfl
@[simp] theorem x_eListZip {m : Av G} : eListZip (G := G) m T ρ h = (fun T => bnd (m T) fun vs _ h => match kListZip vs h with
  | some (v, h') => .ok v h'
  | none => .bad) T ρ h := rfl
@[simp] theorem x_eDic0 : eDic0 (G := G) T ρ h = .ok (.r h.length) (h ++ [.dic []]) := rfl
@[simp] theorem x_sFldD {f : Str} {m a : Ev G} : sFldD (G := G) f m a T ρ h = (fun T => sEr (m T) fun v => sEr (a T) fun x => kFld G.nat f v x) T ρ h := rfl
@[simp] theorem x_eLc2 {it it1 : Iv G} {g g1 : Tg} {t t1 : Tv G} {e : Ev G} {vs vs1 : List Nat} : eLc2 (G := G) it g t it1 g1 t1 e vs vs1 T ρ h = (fun T => bnd (it T) fun i ρ h => match lcGo2 h.length i.chk g (wipeE ρ vs) (t T) (it1 T) g1 vs1 (t1 T) (e T) i.vs (h ++ [.lst []]) with
  | some h' => .ok (.r h.length) h'
  | none => .bad) T ρ h := rfl
@[simp] theorem x_sAug {i : Nat} {f : Val → Val → Hh → Option (Val × Hh)} {m : Ev G} : sAug (G := G) i f m T ρ h = (fun T => fun ρ h => sAug (G := G) i f m T ρ h) T ρ h := rfl
end
/-- all of a list of truths -/
theorem blsA_true : ∀ vs : List Val, blsA (vs.map fun _ => .d (.bl true)) = some (vs.map fun _ => true)
  | [] => rfl
  | v :: vs => by simp only [List.map_cons, blsA, blsA_true vs, Option.map_some]
theorem all_true {n : Nat} {h : Hh} {vs : List Val} (hn : h[n]? = some (.lst (vs.map fun _ => .d (.bl true)))) : cAll [.r n] h = some (.d (.bl true), h) := by
  unfold cAll lstOf
  simp only [hn, Option.bind_some, blsA_true, Option.map_some]
  have : (vs.map fun _ => true).all id = true := by simp
  rw [this]
theorem get_last {h : Hh} {o : O} : (h ++ [o])[h.length]? = some o := by simp
/-- a comprehension that makes one truth of each -/
theorem lc_tr {g : Tg} {ρ : Env} {t : Env → Hh → R Bool} {e : Env → Hh → R Val} {chk : Hh → Prop} (h : Hh) (vs : List Val) (hc : ∀ a, chk (h ++ [.lst a])) (hl : vs.length ≤ sizeLine)
    (hv : ∀ v ∈ vs, ∀ a, ∃ ρ', g v ρ = some ρ' ∧ t ρ' (h ++ [.lst a]) = .ok true (h ++ [.lst a]) ∧ e ρ' (h ++ [.lst a]) = .ok (.d (.bl true)) (h ++ [.lst a])) :
    lcGo h.length chk g ρ t e vs (h ++ [.lst []]) = some (h ++ [.lst (vs.map fun _ => .d (.bl true))]) := lc_map (fun _ => .d (.bl true)) h vs hc hl hv
theorem all_last {h : Hh} {vs : List Val} : cAll [.r h.length] (h ++ [.lst (vs.map fun _ => .d (.bl true))]) = some (.d (.bl true), h ++ [.lst (vs.map fun _ => .d (.bl true))]) := all_true get_last
end Dq
namespace Lw
open PySem PySem.Spec Dq
theorem P_s {k : Nat} {f : F} {vs : List Val} {h : Hh} : P (k + 1) f vs h = gc h (fnR (bd f (P k)) (nF f) vs h) := rfl
theorem sz : (100000 : Nat) ≤ sizeLine := by rw [PySem.sizeLine_eq]; decide
theorem p_is_integer {k : Nat} {i : Int} {h : Hh} : P (k + 1) .f_is_integer [.d (.int i)] h = .ok (.d (.bl true)) h := by
  rw [P_s]
  simp [bd, b_is_integer, fnR, nF, startE, vIsi, tyN, isTy, truB, gc_d0]
def N5 : List Str := ["a", "b", "o", "p", "q"]
abbrev sv (z : Str) : Val := .d (.str z)
theorem n5_one : ∀ z ∈ N5, ∃ c, z = ⟨#[c]⟩ ∧ c ∈ ("abcdefghijklmnopqrstuvwxyz" : Str).cps.toList := by
  intro z hz
  simp only [N5, List.mem_cons, List.not_mem_nil, or_false] at hz
  rcases hz with rfl | rfl | rfl | rfl | rfl
  · exact ⟨97, rfl, by decide +kernel⟩
  · exact ⟨98, rfl, by decide +kernel⟩
  · exact ⟨111, rfl, by decide +kernel⟩
  · exact ⟨112, rfl, by decide +kernel⟩
  · exact ⟨113, rfl, by decide +kernel⟩
theorem n5_kept : ∀ z ∈ N5, ([D.str ("and" : Str), D.str ("call" : Str), D.str ("claim" : Str), D.str ("else" : Str), D.str ("fun" : Str), D.str ("give" : Str), D.str ("if" : Str), D.str ("need" : Str), D.str ("not" : Str), D.str ("or" : Str), D.str ("skip" : Str), D.str ("tell" : Str), D.str ("while" : Str)].any fun y => y.eqv (.str z)) = false := by decide +kernel
theorem kept_in {z : Str} (hz : z ∈ N5) {h : Hh} : vIn (sv z) (.d c_KEPT) h = some (.d (.bl false), h) := by
  unfold vIn inB
  simp only [seqOf, Option.bind_some, allD_map]
  rw [if_pos (.inl ⟨rfl, by decide +kernel⟩)]
  simp only [Option.map_some, n5_kept z hz]
theorem letter_in {a : Nat} (ha : a ∈ ("abcdefghijklmnopqrstuvwxyz" : Str).cps.toList) {h : Hh} : vIn (.d (.str ⟨#[a]⟩)) (.d c_LETTERS) h = some (.d (.bl true), h) := by
  unfold vIn inB
  simp [ha]
theorem p_is_name {k : Nat} {z : Str} (hz : z ∈ N5) {h : Hh} : P (k + 1) .f_is_name [sv z] h = .ok (.d (.bl true)) h := by
  rw [P_s]
  have hs := sz
  have kp := fun h => kept_in hz (h := h)
  obtain ⟨c, rfl, hc⟩ := n5_one z hz
  have hl : (⟨#[c]⟩ : Str).length = 1 := rfl
  have hsg : signs ⟨#[c]⟩ = [.d (.str ⟨#[c]⟩)] := rfl
  have z0 : (0 : Nat) < sizeLine := by omega
  have z1 : (1 : Nat) ≤ sizeLine := by omega
  simp [bd, b_is_name, fnR, nF, startE, vIsi, tyN, isTy, truB, gc_d0, gc_d, cLen, lenB, hl, vLe, vIntB, kp, itOf, hsg, x_lcCons, letter_in hc, cAll, lstOf, blsA, z0, z1, wipeE]
/-! ### ascends -/
def ltS (a b : Str) : Prop := a.cps.toList < b.cps.toList
theorem cut_one (vs : List Val) : cutL vs (some 1) none = vs.drop 1 := by
  unfold cutL HT.sIx
  cases vs with
  | nil => rfl
  | cons v vs => simp
theorem zip_asc : ∀ (ns : List Str), ns.Pairwise ltS → ∀ p ∈ ns.zip (ns.drop 1), ltS p.1 p.2
  | [], _, p, hp => by simp at hp
  | [a], _, p, hp => by simp at hp
  | a :: b :: r, hs, p, hp => by
    simp only [List.drop_succ_cons, List.drop_zero, List.zip_cons_cons, List.mem_cons] at hp
    rcases hp with rfl | hp
    · exact List.rel_of_pairwise_cons hs (List.mem_cons_self ..)
    · exact zip_asc (b :: r) (List.Pairwise.of_cons hs) p (by simpa using hp)
theorem p_ascends {k n : Nat} {ns : List Str} {h : Hh} (hn : h[n]? = some (.lst (ns.map sv))) (hs : ns.Pairwise ltS) (hl : ns.length ≤ 1000) : P (k + 1) .f_ascends [.r n] h = .ok (.d (.bl true)) h := by
  rw [P_s]
  have hsl := sz
  have hlt : n < h.length := (List.getElem?_eq_some_iff.mp hn).1
  have e1 : (h ++ [O.lst ((ns.map sv).drop 1)])[n]? = some (.lst (ns.map sv)) := by rw [List.getElem?_append_left hlt]; exact hn
  have key : lcGo (h ++ [O.lst ((ns.map sv).drop 1)]).length (fun h' => h'[n]? = some (.lst (ns.map sv)) ∧ h'[h.length]? = some (.lst ((ns.map sv).drop 1))) (gTupG 2 (gConsG (gVar 1) (gConsG (gVar 2) gNilG))) [some (.r n), none, none] (qYes (G := G) (P k)) (o2 (G := G) vLt (eVar 1) (eVar 2) (P k))
      (zipV (ns.map sv) ((ns.map sv).drop 1)) ((h ++ [O.lst ((ns.map sv).drop 1)]) ++ [O.lst []]) = some ((h ++ [O.lst ((ns.map sv).drop 1)]) ++ [O.lst ((zipV (ns.map sv) ((ns.map sv).drop 1)).map fun _ => .d (.bl true))]) := by
    refine lc_map (fun _ => .d (.bl true)) _ _ (fun a => ⟨?_, ?_⟩) ?_ ?_
    · rw [List.getElem?_append_left (by simp; omega)]; exact e1
    · rw [List.getElem?_append_left (by simp)]; exact get_last
    · unfold zipV
      simp
      omega
    · intro v hv a
      unfold zipV at hv
      obtain ⟨p, hp, rfl⟩ := List.mem_map.mp hv
      rw [← List.map_drop, List.zip_map] at hp
      obtain ⟨q, hq, rfl⟩ := List.mem_map.mp hp
      have lt := zip_asc ns hs q hq
      have lt' : decide (q.1.cps.toList < q.2.cps.toList) = true := decide_eq_true lt
      refine ⟨[some (.r n), some (sv q.1), some (sv q.2)], ?_, rfl, ?_⟩
      · simp [mkTup, allD]
      · simp [vLt]
        exact lt
  have fin : ∀ t, cAll [.r (h.length + 1)] (h ++ (O.lst ((ns.map sv).drop 1) :: O.lst ((zipV (ns.map sv) ((ns.map sv).drop 1)).map fun _ => .d (.bl true)) :: t)) = some (.d (.bl true), (h ++ (O.lst ((ns.map sv).drop 1) :: O.lst ((zipV (ns.map sv) ((ns.map sv).drop 1)).map fun _ => .d (.bl true)) :: t))) := fun t =>
    all_true (vs := zipV (ns.map sv) ((ns.map sv).drop 1)) (by
      rw [List.getElem?_append_right (by omega)]
      simp)
  simp only [List.append_assoc, List.cons_append, List.nil_append, List.length_append, List.length_cons, List.length_nil, Nat.zero_add] at key
  have e2 : (h ++ [O.lst ((ns.map sv).drop 1)])[h.length]? = some (.lst ((ns.map sv).drop 1)) := get_last
  simp only [bd, b_ascends, fnR, nF, x_sRet, x_sEr, x_eB, x_bnd, x_aCons, x_eLc, x_iZipD, x_eVar, x_eSl, x_pSo, x_eC, x_pNo, x_aNil, startE]
  simp [vSl, hn, cut_one, zipB, e1, wipeE]
  simp at key e1 fin
  simp [e1, key, fin, gc_d]
/-! ### forms over the five names -/
abbrev nzs (v : Str → Int) : List Str := N5.filter fun n => decide (v n ≠ 0)
def pD (v : Str → Int) (ns : List Str) : List D := ns.map fun n => .tup [.str n, .int (v n)]
def fD (c : Int) (v : Str → Int) : D := .tup [.int c, .tup (pD v (nzs v))]
def aD (c : Int) (v : Str → Int) : D := .tup [.str "least", fD c v]
theorem n5_asc : N5.Pairwise ltS := by unfold N5 ltS; decide +kernel
theorem nzs_asc (v : Str → Int) : (nzs v).Pairwise ltS := n5_asc.filter _
theorem nzs_mem {v : Str → Int} {n : Str} : n ∈ nzs v ↔ n ∈ N5 ∧ v n ≠ 0 := by simp [nzs]
theorem nzs_len (v : Str → Int) : (nzs v).length ≤ 5 := by
  have := List.length_filter_le (fun n => decide (v n ≠ 0)) N5
  exact this
theorem pD_len (v : Str → Int) (ns : List Str) : (pD v ns).length = ns.length := by simp [pD]
theorem p_is_form {k : Nat} {c : Int} {v : Str → Int} {h : Hh} : P (k + 3) .f_is_form [.d (fD c v)] h = .ok (.d (.bl true)) h := by
  rw [P_s]
  have hsl := sz
  have hlen : (pD v (nzs v)).length ≤ 5 := by rw [pD_len]; exact nzs_len v
  have hl2 : ((pD v (nzs v)).map Val.d).length ≤ sizeLine := by rw [List.length_map]; omega
  have l1 := lc_tr (g := gVar 1) (ρ := [some (.d (fD c v)), none]) (t := qYes (G := G) (P (k + 2))) (e := eAnd (G := G) (o1 (vIsi "tuple") (eVar 1)) (o2 vEq (eB cLen (aCons (eVar 1) aNil)) (eC (.int 2))) (P (k + 2))) (chk := fun _ => True) h ((pD v (nzs v)).map Val.d) (fun _ => trivial) hl2 (fun u hu a => by
    obtain ⟨d, hd, rfl⟩ := List.mem_map.mp hu
    obtain ⟨n, hn, rfl⟩ := List.mem_map.mp hd
    exact ⟨_, rfl, rfl, by simp [vIsi, tyN, isTy, cLen, lenB, seqOf, vEq, eqB, scalD, D.eqv]⟩)
  have l2 := lc_tr (g := gVar 1) (ρ := [some (.d (fD c v)), none]) (t := qYes (G := G) (P (k + 2))) (e := eGc (G := G) (eAnd (eFn (G := G) .f_is_name (aCons (o2 vIx (eVar 1) (eC (.int 0))) aNil)) (eAnd (eFn (G := G) .f_is_integer (aCons (o2 vIx (eVar 1) (eC (.int 1))) aNil)) (o2 vNe (o2 vIx (eVar 1) (eC (.int 1))) (eC (.int 0))))) (P (k + 2))) (chk := fun _ => True) h ((pD v (nzs v)).map Val.d) (fun _ => trivial) hl2 (fun u hu a => by
    obtain ⟨d, hd, rfl⟩ := List.mem_map.mp hu
    obtain ⟨n, hn, rfl⟩ := List.mem_map.mp hd
    obtain ⟨hn5, hv⟩ := nzs_mem.mp hn
    have hv0 : (v n == 0) = false := by simpa using hv
    exact ⟨_, rfl, rfl, by simp [vIx, seqOf, L2.atI, L2.ixN, psF, p_is_name hn5, p_is_integer, vNe, eqB, scalD, D.eqv, hv0, gc_d0]⟩)
  have l3 := lc_map (g := gVar 1) (ρ := [some (.d (fD c v)), none]) (t := qYes (G := G) (P (k + 2))) (e := o2 (G := G) vIx (eVar 1) (eC (.int 0)) (P (k + 2))) (chk := fun _ => True) (fun u => match u with | .d (.tup (n :: _)) => .d n | u => u) h ((pD v (nzs v)).map Val.d) (fun _ => trivial) hl2 (fun u hu a => by
    obtain ⟨d, hd, rfl⟩ := List.mem_map.mp hu
    obtain ⟨n, hn, rfl⟩ := List.mem_map.mp hd
    exact ⟨_, rfl, rfl, by simp [vIx, seqOf, L2.atI, L2.ixN]⟩)
  have e3 : ((pD v (nzs v)).map Val.d).map (fun u => match u with | .d (.tup (n :: _)) => .d n | u => u) = (nzs v).map sv := by
    unfold pD
    rw [List.map_map, List.map_map]
    rfl
  rw [e3] at l3
  have asc := fun h n hn => p_ascends (k := k + 1) (ns := nzs v) (h := h) (n := n) hn (nzs_asc v) (by have := nzs_len v; omega)
  have a3 := asc (h ++ [O.lst ((nzs v).map sv)]) h.length get_last
  have hlen2 : ¬ (40 : Int) < ((pD v (nzs v)).length : Int) := by omega
  have hlen3 : decide ((40 : Int) < ((pD v (nzs v)).length : Int)) = false := decide_eq_false hlen2
  simp only [fD] at l1 l2 l3 ⊢
  simp [-List.map_map, bd, b_is_form, fnR, nF, startE, vIsi, tyN, isTy, truB, cLen, lenB, seqOf, vNe, eqB, scalD, D.eqv, vIx, L2.atI, L2.ixN, p_is_integer, vGt, vIntB, hlen3, itOf, wipeE, l1, l2, l3, all_last, a3, gc_d, gc_d0, gcB_ok, gcB_ok0, psF]
theorem p_is_atom {k : Nat} {c : Int} {v : Str → Int} {h : Hh} : P (k + 4) .f_is_atom [.d (aD c v)] h = .ok (.d (.bl true)) h := by
  rw [P_s]
  have f := p_is_form (k := k) (c := c) (v := v) (h := h)
  simp only [aD]
  simp [bd, b_is_atom, fnR, nF, startE, vIsi, tyN, isTy, truB, cLen, lenB, seqOf, vNe, eqB, scalD, D.eqv, vIx, L2.atI, L2.ixN, f, gc_d0, psF]
end Lw
namespace Dq
open PySem PySem.Spec PyProof.Rows L2
/-- dicts of texts to ints -/
def dI (ks : List Str) (z : Str → Int) : List (Key × Val) := ks.map fun n => (.inr n, .d (.int (z n)))
theorem dI_len (ks : List Str) (z : Str → Int) : (dI ks z).length = ks.length := by simp [dI]
theorem dI_keys (ks : List Str) (z : Str → Int) : (dI ks z).map (·.1) = ks.map Sum.inr := by simp [dI]
theorem dI_any (n : Str) (z : Str → Int) : ∀ ks : List Str, ((dI ks z).any fun kv => decide (kv.1 = (.inr n : Key))) = decide (n ∈ ks)
  | [] => by simp [dI]
  | k :: ks => by
    have := dI_any n z ks
    unfold dI at this ⊢
    rw [List.map_cons, List.any_cons, this, Bool.eq_iff_iff]
    simp only [Bool.or_eq_true, decide_eq_true_eq, Sum.inr.injEq, List.mem_cons]
    exact ⟨fun h => h.elim (fun e => .inl e.symm) .inr, fun h => h.elim (fun e => .inl e.symm) .inr⟩
theorem dI_put {ks : List Str} {z : Str → Int} {n : Str} {x : Int} : dput (dI ks z) (.inr n) (.d (.int x)) = dI (if n ∈ ks then ks else ks ++ [n]) (fun m => if m = n then x else z m) := by
  unfold dput
  rw [dI_any]
  by_cases hn : n ∈ ks
  · rw [if_pos (decide_eq_true hn), if_pos hn]
    unfold dI
    rw [List.map_map]
    refine List.map_congr_left fun m hm => ?_
    by_cases e : m = n
    · subst e; simp
    · simp [e]
  · rw [if_neg (by simpa using hn), if_neg hn]
    unfold dI
    rw [List.map_append]
    congr 1
    · refine List.map_congr_left fun m hm => ?_
      have e : m ≠ n := fun e => hn (e ▸ hm)
      simp [e]
    · simp
theorem dI_get (n : Str) (z : Str → Int) : ∀ ks : List Str, dget (dI ks z) (.inr n) = if n ∈ ks then some (.d (.int (z n))) else none
  | [] => by simp [dI, dget]
  | k :: ks => by
    have := dI_get n z ks
    unfold dI dget at this ⊢
    rw [List.map_cons, List.find?_cons]
    by_cases e : k = n
    · subst e; simp
    · have e2 : ¬ (n = k) := fun q => e q.symm
      simp only [Sum.inr.injEq, e, decide_false, List.mem_cons, e2, false_or]
      exact this
/-- {k: v for ..}: what it makes -/
theorem dput_len (kvs : List (Key × Val)) (k : Key) (v : Val) : (dput kvs k v).length ≤ kvs.length + 1 := by
  unfold dput
  split
  · rw [List.length_map]; omega
  · simp
theorem dc_run {g : Tg} {ρ : Dq.Env} {t : Dq.Env → Hh → R Bool} {a e : Dq.Env → Hh → R Val} {chk : Hh → Prop} (kf : Val → Key) (vf : Val → Val) (h : Hh) : ∀ (vs : List Val) (acc : List (Key × Val)), (∀ q, chk (h ++ [.dic q])) → acc.length + vs.length ≤ sizeLine →
    (∀ v ∈ vs, ∀ q, ∃ ρ' x, g v ρ = some ρ' ∧ t ρ' (h ++ [.dic q]) = .ok true (h ++ [.dic q]) ∧ a ρ' (h ++ [.dic q]) = .ok x (h ++ [.dic q]) ∧ keyV x = some (kf v) ∧ e ρ' (h ++ [.dic q]) = .ok (vf v) (h ++ [.dic q])) →
    dcGo h.length chk g ρ t a e vs (h ++ [.dic acc]) = some (h ++ [.dic (vs.foldl (fun q v => dput q (kf v) (vf v)) acc)])
  | [], acc, hc, _, _ => by rw [x_dcNil (hc acc)]; rfl
  | v :: vs, acc, hc, hl, hv => by
    rw [x_dcCons (hc acc)]
    obtain ⟨ρ', x, e1, e2, e3, e4, e5⟩ := hv v (List.mem_cons_self ..) acc
    rw [List.length_cons] at hl
    have z : (h ++ [O.dic acc])[h.length]? = some (.dic acc) := by simp
    simp only [e1, e2, e3, e5, z, e4]
    rw [if_pos (by omega)]
    have z2 : (h ++ [O.dic acc]).set h.length (.dic (dput acc (kf v) (vf v))) = h ++ [.dic (dput acc (kf v) (vf v))] := by
      rw [List.set_append_right _ _ (Nat.le_refl _)]
      simp
    have := dput_len acc (kf v) (vf v)
    rw [z2, dc_run kf vf h vs _ hc (by omega) fun w hw => hv w (List.mem_cons_of_mem _ hw)]
    rfl
end Dq
namespace Lw
open PySem PySem.Spec Dq
/-- small ints -/
def Sm (i : Int) : Prop := i.natAbs < 2 ^ 64
theorem Sm.log {i : Int} (h : Sm i) : i.natAbs.log2 ≤ 64 := by
  unfold Sm at h
  by_cases e : i.natAbs = 0
  · rw [e]; decide
  · have := (Nat.log2_lt e).mpr h
    omega
theorem mul_ok {i j : Int} {h : Hh} (a : Sm i) (b : Sm j) : vMul (.d (.int i)) (.d (.int j)) h = some (.d (.int (i * j)), h) := by
  show (if i.natAbs.log2 + j.natAbs.log2 < 1000000 then _ else _) = _
  rw [if_pos]
  have := a.log
  have := b.log
  omega
/-- a pair's name, its number times i, what stays of a name -/
def kfS : Val → L2.Key := fun u => match u with | .d (.tup (.str n :: _)) => .inr n | _ => .inl 0
def vfS (i : Int) : Val → Val := fun u => match u with | .d (.tup [_, .int s]) => .d (.int (i * s)) | _ => .d .non
def ffZ (z : Str → Int) : Val → Option Val := fun x => match x with | .d (.str n) => if z n ≠ 0 then some (Val.d (.tup [.str n, .int (z n)])) else none | _ => none
@[simp] theorem kfS_p {n : Str} {s : Int} : kfS (.d (.tup [.str n, .int s])) = .inr n := rfl
@[simp] theorem vfS_p {n : Str} {i s : Int} : vfS i (.d (.tup [.str n, .int s])) = .d (.int (i * s)) := rfl
@[simp] theorem ffZ_p {n : Str} {z : Str → Int} : ffZ z (.d (.str n)) = if z n ≠ 0 then some (Val.d (.tup [.str n, .int (z n)])) else none := rfl
theorem put_fold (i : Int) (v : Str → Int) : ∀ (l ks : List Str), l.Nodup → (∀ n ∈ l, n ∉ ks) → ((pD v l).map Val.d).foldl (fun q u => dput q (kfS u) (vfS i u)) (dI ks fun n => i * v n) = dI (ks ++ l) fun n => i * v n
  | [], ks, _, _ => by simp [pD]
  | n :: l, ks, nd, hk => by
    have hn : n ∉ ks := hk n (List.mem_cons_self ..)
    obtain ⟨n1, n2⟩ := List.nodup_cons.mp nd
    simp only [pD, List.map_cons, List.foldl_cons, kfS_p, vfS_p]
    rw [dI_put, if_neg hn]
    have e : (fun m => if m = n then i * v n else i * v m) = fun m => i * v m := by
      funext m
      by_cases e : m = n
      · rw [e]; simp
      · rw [if_neg e]
    rw [e]
    have ih := put_fold i v l (ks ++ [n]) n2 (fun m hm hm2 => by
      rcases List.mem_append.mp hm2 with h | h
      · exact hk m (List.mem_cons_of_mem _ hm) h
      · rw [List.mem_singleton.mp h] at hm; exact n1 hm)
    unfold pD at ih
    rw [ih, List.append_assoc]
    rfl
theorem n5_nodup : N5.Nodup := by unfold N5; decide +kernel
theorem nzs_nodup (v : Str → Int) : (nzs v).Nodup := n5_nodup.filter _
theorem n5_le : N5.Pairwise (fun a b => leS a b = true) := by unfold N5; decide +kernel
theorem srt_n5 {ks : List Str} (nd : ks.Nodup) (hk : ∀ m ∈ ks, m ∈ N5) : srtS ks = N5.filter fun n => decide (n ∈ ks) := by
  symm
  refine pw_eq ?_ (n5_le.filter _)
  refine (List.perm_ext_iff_of_nodup (n5_nodup.filter _) nd).mpr fun m => ?_
  simp only [List.mem_filter, decide_eq_true_eq]
  exact ⟨fun h => h.2, fun h => ⟨hk m h, h⟩⟩
/-- the body of combined's loop -/
noncomputable abbrev cbB : Sv G := sPut (o2 vAdd (oM isDic kGet2 (eVar 4) (aCons (eVar 5) (aCons (eC (.int 0)) aNil))) (o2 vMul (eVar 2) (eVar 6))) (eVar 4) (eVar 5)
theorem comb_loop {T : Tab G} {w : Str → Int} {j : Int} (hj : Sm j) (hw : ∀ n, Sm (w n)) {x0 x1 x3 : Option Val} {h : Hh} : ∀ (l ks : List Str) (z : Str → Int) (x5 x6 : Option Val), l.Nodup → ks.Nodup → ks.length + l.length ≤ 1000 →
    ∃ x5' x6' ks' z', forGo (fun _ => True) (gTupG 2 (gConsG (gVar 5) (gConsG (gVar 6) gNilG))) (cbB T) ((pD w l).map Val.d) [x0, x1, some (.d (.int j)), x3, some (.r h.length), x5, x6, none] (h ++ [.dic (dI ks z)]) =
      .nx [x0, x1, some (.d (.int j)), x3, some (.r h.length), x5', x6', none] (h ++ [.dic (dI ks' z')]) ∧ ks'.Nodup ∧ ks'.length ≤ ks.length + l.length ∧ (∀ m, m ∈ ks' ↔ m ∈ ks ∨ m ∈ l) ∧ ∀ m, m ∈ ks' → z' m = (if m ∈ ks then z m else 0) + (if m ∈ l then j * w m else 0)
  | [], ks, z, x5, x6, _, nd, _ => ⟨x5, x6, ks, z, by rw [show (pD w []).map Val.d = [] from rfl, x_forNil trivial], nd, Nat.le_refl _, fun m => by simp, fun m hm => by simp [hm]⟩
  | n :: l, ks, z, x5, x6, nl, nd, hl => by
    obtain ⟨n1, n2⟩ := List.nodup_cons.mp nl
    rw [List.length_cons] at hl
    have hsl := sz
    have step : cbB T [x0, x1, some (.d (.int j)), x3, some (.r h.length), some (sv n), some (.d (.int (w n))), none] (h ++ [.dic (dI ks z)]) =
        .nx [x0, x1, some (.d (.int j)), x3, some (.r h.length), some (sv n), some (.d (.int (w n))), none] (h ++ [.dic (dI (if n ∈ ks then ks else ks ++ [n]) (fun m => if m = n then (if n ∈ ks then z n else 0) + j * w n else z m))]) := by
      have hg : (h ++ [O.dic (dI ks z)])[h.length]? = some (.dic (dI ks z)) := by simp
      have hl2 : (dI ks z).length < sizeLine := by rw [dI_len]; omega
      have hset : ∀ q, (h ++ [O.dic (dI ks z)]).set h.length (.dic q) = h ++ [.dic q] := fun q => by
        rw [List.set_append_right _ _ (Nat.le_refl _)]
        simp
      by_cases hn : n ∈ ks
      · simp [isDic, vGet2, hg, keyV, keyD, dI_get, hn, mul_ok hj (hw n), vAdd, vPut, hl2, dI_put, hset]
      · simp [isDic, vGet2, hg, keyV, keyD, dI_get, hn, mul_ok hj (hw n), vAdd, vPut, hl2, dI_put, hset]
    have nd1 : (if n ∈ ks then ks else ks ++ [n]).Nodup := by
      by_cases hn : n ∈ ks
      · rw [if_pos hn]; exact nd
      · rw [if_neg hn]
        exact List.nodup_append.mpr ⟨nd, by simp, fun a ha b hb e => hn (by rw [List.mem_singleton.mp hb] at e; exact e ▸ ha)⟩
    have len1 : (if n ∈ ks then ks else ks ++ [n]).length ≤ ks.length + 1 := by split <;> simp
    have mem1 : ∀ m, m ∈ (if n ∈ ks then ks else ks ++ [n]) ↔ m ∈ ks ∨ m = n := fun m => by
      by_cases hn : n ∈ ks
      · rw [if_pos hn]
        constructor
        · exact .inl
        · rintro (h | rfl)
          · exact h
          · exact hn
      · rw [if_neg hn]; simp
    obtain ⟨x5', x6', ks', z', e1, e2, e3, e4, e5⟩ := comb_loop hj hw (x0 := x0) (x1 := x1) (x3 := x3) (h := h) l _ (fun m => if m = n then (if n ∈ ks then z n else 0) + j * w n else z m) (some (sv n)) (some (.d (.int (w n)))) n2 nd1 (by omega)
    refine ⟨x5', x6', ks', z', ?_, e2, by rw [List.length_cons]; omega, fun m => ?_, fun m hm => ?_⟩
    · show forGo _ _ _ (.d (.tup [.str n, .int (w n)]) :: (pD w l).map Val.d) _ _ = _
      rw [x_forCons trivial]
      simp only [x_gTup, x_tupOf, Option.bind_some, List.map_cons, List.map_nil, List.length_cons, List.length_nil, if_true, x_gCons, x_gVar, x_gNil, List.set, step]
      exact e1
    · rw [e4, mem1, List.mem_cons]
      constructor
      · rintro ((h | h) | h) <;> simp [h]
      · rintro (h | h | h) <;> simp [h]
    · rw [e5 m hm]
      by_cases e : m = n
      · subst e
        have q : m ∈ (if m ∈ ks then ks else ks ++ [m]) := (mem1 m).mpr (.inr rfl)
        rw [if_pos q, if_pos rfl, if_neg n1, if_pos (List.mem_cons_self ..)]
        omega
      · have q : (m ∈ (if n ∈ ks then ks else ks ++ [n])) ↔ m ∈ ks := by rw [mem1]; simp [e]
        have q2 : m ∈ n :: l ↔ m ∈ l := by simp [e]
        simp only [q, q2, if_neg e]
end Lw
namespace Lw
open PySem PySem.Spec Dq
theorem filt_pairs {ks : List Str} {z u : Str → Int} (hz : ∀ m, m ∈ ks → z m = u m) : ∀ l : List Str, (∀ m ∈ l, m ∉ ks → u m = 0) →
    ((l.filter fun n => decide (n ∈ ks)).map sv).filterMap (ffZ z) = (pD u (l.filter fun n => decide (u n ≠ 0))).map Val.d
  | [], _ => rfl
  | n :: l, h => by
    have ih := filt_pairs hz l fun m hm => h m (List.mem_cons_of_mem _ hm)
    by_cases hk : n ∈ ks
    · have e := hz n hk
      rw [List.filter_cons_of_pos (by simpa using hk), List.map_cons, List.filterMap_cons, ffZ_p]
      by_cases h0 : u n = 0
      · have h1 : z n = 0 := by rw [e]; exact h0
        simp only [h1, ne_eq, not_true_eq_false, if_false]
        rw [List.filter_cons_of_neg (by simpa using h0)]
        exact ih
      · have h1 : z n ≠ 0 := by rw [e]; exact h0
        simp only [h1, ne_eq, not_false_eq_true, if_true]
        rw [List.filter_cons_of_pos (by simpa using h0)]
        simp only [pD, List.map_cons]
        rw [e]
        unfold pD at ih
        rw [ih]
    · have h0 := h n (List.mem_cons_self ..) hk
      rw [List.filter_cons_of_neg (by simpa using hk), List.filter_cons_of_neg (by simpa using h0)]
      exact ih
theorem belAll_d {α : Type} (f : α → D) (n : Nat) : ∀ l : List α, belAll n (l.map fun x => Val.d (f x)) = true
  | [] => rfl
  | x :: l => by rw [List.map_cons, belAll, belAll_d f n l]; rfl
theorem dI_bel (m : Nat) (ks : List Str) (z : Str → Int) : O.bel m (.dic (dI ks z)) = true := by
  show belAll m ((dI ks z).map (·.2)) = true
  unfold dI
  rw [List.map_map]
  exact belAll_d (fun n => D.int (z n)) m ks
theorem tk1 {h t : Hh} {a : O} : (h ++ (a :: t)).take (h ++ [a]).length = h ++ [a] := by
  have : h ++ (a :: t) = (h ++ [a]) ++ t := by simp
  rw [this, List.take_left]
theorem gc_d1 {h t : Hh} {a : O} {x : D} : gc (h ++ [a]) (.ok (.d x) (h ++ (a :: t))) = .ok (.d x) (h ++ [a]) := by
  have : h ++ (a :: t) = (h ++ [a]) ++ t := by simp
  rw [this, gc_d]
theorem textKeys_inr : ∀ ks : List Str, textKeys (ks.map Sum.inr) = some ks
  | [] => rfl
  | k :: ks => by rw [List.map_cons, textKeys, textKeys_inr ks]; rfl
theorem allD_mapd {α : Type} (f : α → D) (l : List α) : allD ((l.map f).map Val.d) = some (l.map f) := allD_map _
theorem p_combined {k : Nat} {i j c d : Int} {v w : Str → Int} (hi : Sm i) (hj : Sm j) (hc : Sm c) (hd : Sm d) (hv : ∀ n, Sm (v n)) (hw : ∀ n, Sm (w n)) {h : Hh} :
    P (k + 1) .f_combined [.d (.int i), .d (fD c v), .d (.int j), .d (fD d w)] h = .ok (.d (fD (i * c + j * d) (fun n => i * v n + j * w n))) h := by
  rw [P_s]
  have hsl := sz
  have lv := nzs_len v
  have lw := nzs_len w
  have z2 : (2 : Nat) ≤ sizeLine := by omega
  have d1 := dc_run (g := gTupG 2 (gConsG (gVar 5) (gConsG (gVar 6) gNilG))) (ρ := [some (.d (.int i)), some (.d (fD c v)), some (.d (.int j)), some (.d (fD d w)), none, none, none, none]) (t := qYes (G := G) (P k)) (a := eVar (G := G) 5 (P k)) (e := o2 (G := G) vMul (eVar 0) (eVar 6) (P k)) (chk := fun _ => True)
    kfS (vfS i) h ((pD v (nzs v)).map Val.d) [] (fun _ => trivial) (by rw [List.length_map, pD_len]; show 0 + _ ≤ _; omega) (fun u hu q => by
      obtain ⟨x, hx, rfl⟩ := List.mem_map.mp hu
      obtain ⟨n, hn, rfl⟩ := List.mem_map.mp hx
      refine ⟨[some (.d (.int i)), some (.d (fD c v)), some (.d (.int j)), some (.d (fD d w)), none, some (sv n), some (.d (.int (v n))), none], sv n, by simp, rfl, rfl, rfl, by simp [mul_ok hi (hv n)]⟩)
  have pf := put_fold i v (nzs v) [] (nzs_nodup v) (fun _ _ h => by cases h)
  have pf : List.foldl _ ([] : List (L2.Key × Val)) _ = _ := pf
  rw [pf, List.nil_append] at d1
  obtain ⟨x5, x6, ks, z, e1, nd, len, mem, val⟩ := comb_loop (T := P k) (w := w) (j := j) hj hw (x0 := some (.d (.int i))) (x1 := some (.d (fD c v))) (x3 := some (.d (fD d w))) (h := h) (nzs w) (nzs v) (fun n => i * v n) none none (nzs_nodup w) (nzs_nodup v) (by omega)
  have hk5 : ∀ m ∈ ks, m ∈ N5 := fun m hm => by
    rcases (mem m).mp hm with h | h
    · exact (nzs_mem.mp h).1
    · exact (nzs_mem.mp h).1
  have hval : ∀ m, m ∈ ks → z m = i * v m + j * w m := fun m hm => by
    rw [val m hm]
    have m5 := hk5 m hm
    have a1 : (if m ∈ nzs v then i * v m else 0) = i * v m := by
      by_cases h : m ∈ nzs v
      · rw [if_pos h]
      · rw [if_neg h]
        have : v m = 0 := by
          by_cases e : v m = 0
          · exact e
          · exact absurd (nzs_mem.mpr ⟨m5, e⟩) h
        rw [this, Int.mul_zero]
    have a2 : (if m ∈ nzs w then j * w m else 0) = j * w m := by
      by_cases h : m ∈ nzs w
      · rw [if_pos h]
      · rw [if_neg h]
        have : w m = 0 := by
          by_cases e : w m = 0
          · exact e
          · exact absurd (nzs_mem.mpr ⟨m5, e⟩) h
        rw [this, Int.mul_zero]
    rw [a1, a2]
  have hout : ∀ m ∈ N5, m ∉ ks → i * v m + j * w m = 0 := fun m m5 hm => by
    have h1 : v m = 0 := by
      by_cases e : v m = 0
      · exact e
      · exact absurd ((mem m).mpr (.inl (nzs_mem.mpr ⟨m5, e⟩))) hm
    have h2 : w m = 0 := by
      by_cases e : w m = 0
      · exact e
      · exact absurd ((mem m).mpr (.inr (nzs_mem.mpr ⟨m5, e⟩))) hm
    rw [h1, h2, Int.mul_zero, Int.mul_zero]
    rfl
  have srt := srt_n5 nd hk5
  have hkl : ks.length < 64 := by omega
  have hs : cSorted [.r h.length] (h ++ [O.dic (dI ks z)]) = some (.r (h.length + 1), h ++ [O.dic (dI ks z), O.lst ((N5.filter fun n => decide (n ∈ ks)).map sv)]) := by
    unfold cSorted
    simp only [get_last, dI_keys, textKeys_inr, Option.bind_some, if_pos hkl, srt]
    simp
  have hl2 : ((N5.filter fun n => decide (n ∈ ks)).map sv).length ≤ 5 := by
    rw [List.length_map]
    exact List.length_filter_le (fun n => decide (n ∈ ks)) N5
  have lc := lc_run (g := gVar 5) (ρ := [some (.d (.int i)), some (.d (fD c v)), some (.d (.int j)), some (.d (fD d w)), some (.r h.length), none, x6, none]) (t := qVal (G := G) (o2 vNe (o2 vIx (eVar 4) (eVar 5)) (eC (.int 0))) (P k)) (e := eTup (G := G) (aCons (eVar 5) (aCons (o2 vIx (eVar 4) (eVar 5)) aNil)) (P k))
    (chk := fun h' => h'[h.length + 1]? = some (.lst ((N5.filter fun n => decide (n ∈ ks)).map sv))) (ffZ z) (h ++ [O.dic (dI ks z), O.lst ((N5.filter fun n => decide (n ∈ ks)).map sv)]) ((N5.filter fun n => decide (n ∈ ks)).map sv) []
    (fun a => by rw [List.getElem?_append_left (by simp)]; rw [List.getElem?_append_right (by omega)]; simp) (by show 0 + _ ≤ _; omega) (fun u hu a => by
      obtain ⟨n, hn, rfl⟩ := List.mem_map.mp hu
      have hnk : n ∈ ks := by simpa using (List.mem_filter.mp hn).2
      have hg : (h ++ [O.dic (dI ks z), O.lst ((N5.filter fun n => decide (n ∈ ks)).map sv)] ++ [O.lst a])[h.length]? = some (.dic (dI ks z)) := by
        rw [List.append_assoc, List.getElem?_append_right (Nat.le_refl _)]
        simp
      refine ⟨[some (.d (.int i)), some (.d (fD c v)), some (.d (.int j)), some (.d (fD d w)), some (.r h.length), some (sv n), x6, none], rfl, ?_⟩
      generalize h ++ [O.dic (dI ks z), O.lst ((N5.filter fun n => decide (n ∈ ks)).map sv)] ++ [O.lst a] = hh at hg ⊢
      have ix : vIx (.r h.length) (.d (.str n)) hh = some (.d (.int (z n)), hh) := by
        simp [vIx, hg, dI_get, hnk]
      by_cases h0 : z n = 0
      · refine .inl ⟨by simp [h0], ?_⟩
        simp [ix, vNe, eqB, scalD, D.eqv, h0]
      · refine .inr ⟨.d (.tup [.str n, .int (z n)]), by simp [h0], ?_, ?_⟩
        · simp [ix, vNe, eqB, scalD, D.eqv, h0]
        · simp [ix, mkTup, allD, z2])
  rw [List.nil_append, filt_pairs hval N5 hout] at lc
  have bel : ∀ m, O.bel m (.dic (dI (nzs v) fun n => i * v n)) = true := fun m => dI_bel m _ _
  have g1 := gc_r0 (h := h) (u := []) (bel h.length)
  have t1 : ∀ t, cTuple [.r (h.length + 2)] (h ++ (O.dic (dI ks z) :: O.lst ((N5.filter fun n => decide (n ∈ ks)).map sv) :: O.lst ((pD (fun n => i * v n + j * w n) (nzs fun n => i * v n + j * w n)).map Val.d) :: t)) = some (.d (.tup (pD (fun n => i * v n + j * w n) (nzs fun n => i * v n + j * w n))), h ++ (O.dic (dI ks z) :: O.lst ((N5.filter fun n => decide (n ∈ ks)).map sv) :: O.lst ((pD (fun n => i * v n + j * w n) (nzs fun n => i * v n + j * w n)).map Val.d) :: t)) := fun t => by
    have hg : (h ++ (O.dic (dI ks z) :: O.lst ((N5.filter fun n => decide (n ∈ ks)).map sv) :: O.lst ((pD (fun n => i * v n + j * w n) (nzs fun n => i * v n + j * w n)).map Val.d) :: t))[h.length + 2]? = some (O.lst ((pD (fun n => i * v n + j * w n) (nzs fun n => i * v n + j * w n)).map Val.d)) := by
      rw [List.getElem?_append_right (by omega)]
      simp
    simp only [cTuple, tupOf, lstOf, hg, Option.map_some, mkTup_map]
  have hsg : (h ++ [O.dic (dI ks z), O.lst ((N5.filter fun n => decide (n ∈ ks)).map sv)])[h.length + 1]? = some (O.lst ((N5.filter fun n => decide (n ∈ ks)).map sv)) := by
    rw [List.getElem?_append_right (by omega)]
    simp
  generalize (N5.filter fun n => decide (n ∈ ks)).map sv = SL at *
  simp only [fD] at d1 e1 lc ⊢
  generalize pD (fun n => i * v n + j * w n) (nzs fun n => i * v n + j * w n) = PL at *
  simp only [List.length_append, List.length_cons, List.length_nil, Nat.zero_add, List.append_assoc, List.cons_append, List.nil_append] at lc
  simp only [bd, b_combined, fnR, nF, startE]
  simp [-List.map_map, vIx, seqOf, L2.atI, L2.ixN, itOf, wipeE, d1, g1, e1]
  simp [-List.map_map, vIx, seqOf, L2.atI, L2.ixN, itOf, wipeE, hs, hsg, lc, t1, gc_d1, mul_ok hi hc, mul_ok hj hd, vAdd, mkTup, allD, z2, gc_d]
end Lw
namespace Lw
open PySem PySem.Spec Dq
abbrev Z0 : Str → Int := fun _ => 0
theorem nzs_zero : nzs Z0 = [] := by unfold nzs N5; decide +kernel
theorem fD_zero (c : Int) : fD c Z0 = .tup [.int c, .tup []] := by unfold fD; rw [nzs_zero]; rfl
def one (z : Str) : Str → Int := fun n => if n = z then 1 else 0
theorem nzs_one : ∀ z ∈ N5, nzs (one z) = [z] := by unfold nzs N5 one; decide +kernel
theorem fD_one {z : Str} (hz : z ∈ N5) : fD 0 (one z) = .tup [.int 0, .tup [.tup [.str z, .int 1]]] := by
  unfold fD pD
  rw [nzs_one z hz]
  simp [one]
theorem p_constant {k : Nat} {c : Int} {h : Hh} : P (k + 1) .f_constant [.d (.int c)] h = .ok (.d (fD c Z0)) h := by
  rw [P_s, fD_zero]
  have hsl := sz
  have z0 : (0 : Nat) ≤ sizeLine := by omega
  have z2 : (2 : Nat) ≤ sizeLine := by omega
  simp [bd, b_constant, fnR, nF, startE, mkTup, allD, z0, z2, gc_d0]
theorem p_named {k : Nat} {z : Str} (hz : z ∈ N5) {h : Hh} : P (k + 1) .f_named [sv z] h = .ok (.d (fD 0 (one z))) h := by
  rw [P_s, fD_one hz]
  have hsl := sz
  have z1 : (1 : Nat) ≤ sizeLine := by omega
  have z2 : (2 : Nat) ≤ sizeLine := by omega
  simp [bd, b_named, fnR, nF, startE, mkTup, allD, z1, z2, gc_d0]
/-! ### divisors -/
theorem gt_ii {i j : Int} {h : Hh} : vGt (.d (.int i)) (.d (.int j)) h = some (.d (.bl (decide (i > j))), h) := rfl
theorem mod_ii {i j : Int} {h : Hh} : vMod (.d (.int i)) (.d (.int j)) h = if 0 < j then some (.d (.int (i % j)), h) else none := rfl
theorem div_ii {i j : Int} {h : Hh} : vDiv (.d (.int i)) (.d (.int j)) h = if 0 < j ∧ j.natAbs.log2 < 9000 then some (.d (.int (i / j)), h) else none := rfl
theorem add_ii {i j : Int} {h : Hh} : vAdd (.d (.int i)) (.d (.int j)) h = some (.d (.int (i + j)), h) := rfl
abbrev iv (i : Int) : Option Val := some (.d (.int i))
theorem gcd_loop {T : Tab G} {h : Hh} : ∀ (b a : Nat), sWhile (qVal (o2 vGt (eVar 1) (eC (.int 0)))) (sPar (aCons (eVar 1) (aCons (o2 vMod (eVar 0) (eVar 1)) aNil)) [0, 1]) T [iv a, iv b] h = .nx [iv ((Nat.gcd a b : Nat) : Int), iv 0] h := by
  intro b
  induction b using Nat.strongRecOn with
  | ind b ih =>
    intro a
    rw [sWhile_step]
    by_cases hb : b = 0
    · subst hb
      simp [iv, gt_ii]
    · have hb2 : (0 : Int) < (b : Int) := by omega
      have e : ((a : Int) % (b : Int)) = ((a % b : Nat) : Int) := by omega
      have lt : a % b < b := Nat.mod_lt _ (by omega)
      have eg : Nat.gcd b (a % b) = Nat.gcd a b := by rw [Nat.gcd_comm, ← Nat.gcd_rec, Nat.gcd_comm]
      have := ih (a % b) lt b
      rw [eg] at this
      simp only [iv] at this ⊢
      have hb3 : 0 < b := by omega
      simp [gt_ii, mod_ii, hb3]
      rw [e]
      exact this
theorem abs_nat (i : Int) : (if i < 0 then -i else i) = ((i.natAbs : Nat) : Int) := by omega
theorem p_divisor {k : Nat} {i j : Int} {h : Hh} : P (k + 1) .f_divisor [.d (.int i), .d (.int j)] h = .ok (.d (.int ((Nat.gcd i.natAbs j.natAbs : Nat) : Int))) h := by
  rw [P_s]
  simp only [bd, b_divisor, fnR, nF, startE]
  have := gcd_loop (T := P k) (h := h) j.natAbs i.natAbs
  simp only [iv] at this
  simp [cAbs, abs_nat, this, gc_d0]
theorem p_law_divisor {k : Nat} {a b : Nat} {h : Hh} : P (k + 1) .f__law_divisor [.d (.int (a : Int)), .d (.int (b : Int))] h = .ok (.d (.int ((Nat.gcd a b : Nat) : Int))) h := by
  rw [P_s]
  simp only [bd, b__law_divisor, fnR, nF, startE]
  have := gcd_loop (T := P k) (h := h) b a
  simp only [iv] at this
  simp [this, gc_d0]
/-- what divides all factors -/
def gF (v : Str → Int) : List Str → Nat → Nat
  | [], g => g
  | n :: l, g => gF v l (Nat.gcd g (v n).natAbs)
theorem gF_dvd (v : Str → Int) : ∀ (l : List Str) (g : Nat), gF v l g ∣ g ∧ ∀ n ∈ l, gF v l g ∣ (v n).natAbs
  | [], g => ⟨Nat.dvd_refl _, fun n hn => by cases hn⟩
  | n :: l, g => by
    obtain ⟨h1, h2⟩ := gF_dvd v l (Nat.gcd g (v n).natAbs)
    refine ⟨Nat.dvd_trans h1 (Nat.gcd_dvd_left _ _), fun m hm => ?_⟩
    rcases List.mem_cons.mp hm with rfl | hm
    · exact Nat.dvd_trans h1 (Nat.gcd_dvd_right _ _)
    · exact h2 m hm
abbrev gV (v : Str → Int) : Nat := gF v (nzs v) 0
/-- the normal form's number, its factors -/
def nC (c : Int) (v : Str → Int) : Int := if gV v = 0 then (if c ≥ 0 then 0 else -1) else c / (gV v : Int)
def nV (v : Str → Int) : Str → Int := fun n => v n / (gV v : Int)
theorem gV_zero {v : Str → Int} (h : gV v = 0) : nzs v = [] := by
  cases e : nzs v with
  | nil => rfl
  | cons n l =>
    have hn : n ∈ nzs v := by rw [e]; exact List.mem_cons_self ..
    obtain ⟨_, h0⟩ := nzs_mem.mp hn
    have := (gF_dvd v (nzs v) 0).2 n hn
    have h : gF v (nzs v) 0 = 0 := h
    rw [h] at this
    have := Nat.eq_zero_of_zero_dvd this
    exact absurd (by omega : v n = 0) h0
theorem gV_dvd {v : Str → Int} {n : Str} (hn : n ∈ N5) : (gV v : Int) ∣ v n := by
  by_cases h0 : v n = 0
  · rw [h0]; exact Int.dvd_zero _
  · exact Int.ofNat_dvd_left.mpr ((gF_dvd v (nzs v) 0).2 n (nzs_mem.mpr ⟨hn, h0⟩))
theorem nzs_nV {v : Str → Int} (h : gV v ≠ 0) : nzs (nV v) = nzs v := by
  unfold nzs
  refine List.filter_congr fun n hn => ?_
  obtain ⟨q, hq⟩ := gV_dvd (v := v) hn
  have hg : (gV v : Int) ≠ 0 := by omega
  have e : nV v n = q := by
    unfold nV
    rw [hq, Int.mul_ediv_cancel_left _ hg]
  rw [Bool.eq_iff_iff]
  simp only [decide_eq_true_eq]
  rw [e, hq]
  constructor
  · intro h1 h2
    rcases Int.mul_eq_zero.mp h2 with h | h
    · exact hg h
    · exact h1 h
  · intro h1 h2
    exact h1 (by rw [h2, Int.mul_zero])
theorem gV_log {v : Str → Int} (hv : ∀ n, Sm (v n)) (hg : ¬ gV v = 0) : (gV v).log2 < 9000 := by
  cases e : nzs v with
  | nil =>
    exfalso
    apply hg
    show gF v (nzs v) 0 = 0
    rw [e]
    rfl
  | cons n l =>
    have hn : n ∈ nzs v := by rw [e]; exact List.mem_cons_self ..
    obtain ⟨_, h0⟩ := nzs_mem.mp hn
    have hd := (gF_dvd v (nzs v) 0).2 n hn
    have hle : gV v ≤ (v n).natAbs := Nat.le_of_dvd (by omega) hd
    have hs : (v n).natAbs < 2 ^ 64 := hv n
    have : (gV v).log2 < 64 := (Nat.log2_lt hg).mpr (Nat.lt_of_le_of_lt hle hs)
    omega
theorem size_loop {k : Nat} {v : Str → Int} {x0 x4 : Option Val} {h : Hh} : ∀ (l : List Str) (g : Nat) (x2 x3 : Option Val), ∃ x2' x3', forGo (fun _ => True) (gTupG 2 (gConsG (gVar 2) (gConsG (gVar 3) gNilG))) (sSet (G := G) (eFn (G := G) .f_divisor (aCons (eVar 1) (aCons (eVar 3) aNil))) (gVar 1) (P (k + 1))) ((pD v l).map Val.d) [x0, iv (g : Int), x2, x3, x4] h =
    .nx [x0, iv ((gF v l g : Nat) : Int), x2', x3', x4] h
  | [], g, x2, x3 => ⟨x2, x3, by rw [show (pD v []).map Val.d = [] from rfl, x_forNil trivial]; rfl⟩
  | n :: l, g, x2, x3 => by
    obtain ⟨y2, y3, e⟩ := size_loop (k := k) (v := v) (x0 := x0) (x4 := x4) (h := h) l (Nat.gcd g (v n).natAbs) (some (sv n)) (iv (v n))
    refine ⟨y2, y3, ?_⟩
    show forGo _ _ _ (.d (.tup [.str n, .int (v n)]) :: (pD v l).map Val.d) _ _ = _
    rw [x_forCons trivial]
    have pd := p_divisor (k := k) (i := (g : Int)) (j := v n) (h := h)
    rw [Int.natAbs_natCast] at pd
    simp only [iv] at e ⊢
    simp [psF, pd]
    exact e
theorem p_normal {k : Nat} {c : Int} {v : Str → Int} (hv : ∀ n, Sm (v n)) {h : Hh} : P (k + 2) .f_normal_of [.d (fD c v)] h = .ok (.d (aD (nC c v) (nV v))) h := by
  rw [P_s]
  have hsl := sz
  have lv := nzs_len v
  have z2 : (2 : Nat) ≤ sizeLine := by omega
  obtain ⟨y2, y3, e⟩ := size_loop (k := k) (v := v) (x0 := some (.d (fD c v))) (x4 := none) (h := h) (nzs v) 0 none none
  by_cases hg : gV v = 0
  · have e0 : gF v (nzs v) 0 = 0 := hg
    have n0 := gV_zero hg
    have en : nzs (nV v) = [] := by
      unfold nV
      rw [hg]
      have : (fun n => v n / ((0 : Nat) : Int)) = Z0 := by funext n; simp
      rw [this, nzs_zero]
    have ea : aD (nC c v) (nV v) = .tup [.str "least", .tup [.int (if c ≥ 0 then 0 else -1), .tup []]] := by
      unfold aD fD nC pD
      rw [en, if_pos hg]
      rfl
    rw [ea]
    rw [e0] at e
    simp only [fD] at e ⊢
    simp only [bd, b_normal_of, fnR, nF, startE]
    simp [vIx, seqOf, L2.atI, L2.ixN, itOf] at e ⊢
    simp [e, vEq, eqB, scalD, D.eqv, vGe, vIntB]
    by_cases hc : c ≥ 0
    · simp [hc, gc_d0, c_TRUE]
    · simp [hc, gc_d0, c_NEVER]
  · have lc := lc_map (g := gTupG 2 (gConsG (gVar 4) (gConsG (gVar 3) gNilG))) (ρ := [some (.d (fD c v)), iv (gV v : Int), y2, none, none]) (t := qYes (G := G) (P (k + 1))) (e := eTup (G := G) (aCons (eVar 4) (aCons (o2 vDiv (eVar 3) (eVar 1)) aNil)) (P (k + 1))) (chk := fun _ => True)
      (fun u => match u with | .d (.tup [.str n, .int s]) => .d (.tup [.str n, .int (s / (gV v : Int))]) | u => u) h ((pD v (nzs v)).map Val.d) (fun _ => trivial) (by rw [List.length_map, pD_len]; omega) (fun u hu a => by
        obtain ⟨x, hx, rfl⟩ := List.mem_map.mp hu
        obtain ⟨n, hn, rfl⟩ := List.mem_map.mp hx
        have hpos : 0 < gV v := by omega
        have hlog : (gV v).log2 < 9000 := by
          obtain ⟨_, h0⟩ := nzs_mem.mp hn
          have hd := (gF_dvd v (nzs v) 0).2 n hn
          have hle : gV v ≤ (v n).natAbs := Nat.le_of_dvd (by omega) hd
          have hs : (v n).natAbs < 2 ^ 64 := hv n
          have : (gV v).log2 < 64 := (Nat.log2_lt hg).mpr (Nat.lt_of_le_of_lt hle hs)
          omega
        refine ⟨[some (.d (fD c v)), iv (gV v : Int), y2, iv (v n), some (sv n)], by simp [iv], rfl, ?_⟩
        simp only [iv]
        simp [div_ii, hpos, hlog, mkTup, allD, z2])
    have el : ((pD v (nzs v)).map Val.d).map (fun u => match u with | .d (.tup [.str n, .int s]) => Val.d (.tup [.str n, .int (s / (gV v : Int))]) | u => u) = (pD (nV v) (nzs (nV v))).map Val.d := by
      rw [nzs_nV hg]
      unfold pD nV
      rw [List.map_map, List.map_map, List.map_map]
      rfl
    rw [el] at lc
    have ea : nC c v = c / (gV v : Int) := by unfold nC; rw [if_neg hg]
    have hgi : ¬ ((gV v : Int) = 0) := by omega
    have hpos : 0 < gV v := by omega
    have hlog := gV_log hv hg
    have b0 : ((gV v : Int) == 0) = false := by simp [hg]
    have tp : cTuple [.r h.length] (h ++ [O.lst ((pD (nV v) (nzs (nV v))).map Val.d)]) = some (.d (.tup (pD (nV v) (nzs (nV v)))), h ++ [O.lst ((pD (nV v) (nzs (nV v))).map Val.d)]) := by
      simp only [cTuple, tupOf, lstOf, get_last, Option.map_some, mkTup_map]
    unfold aD
    rw [ea]
    have e' : gF v (nzs v) 0 = gV v := rfl
    rw [e'] at e
    simp only [fD, iv] at e lc ⊢
    generalize gV v = gg at *
    generalize pD (nV v) (nzs (nV v)) = PL at *
    simp only [bd, b_normal_of, fnR, nF, startE]
    simp [vIx, seqOf, L2.atI, L2.ixN, itOf, wipeE] at e lc ⊢
    simp [e, lc, vEq, eqB, scalD, D.eqv, b0, div_ii, hpos, hlog, tp, mkTup, allD, z2, gc_d]
end Lw
namespace Lw
open PySem PySem.Spec Dq
/-! ### forms put in the place of names -/
def Bd (b : Nat) (i : Int) : Prop := i.natAbs ≤ b
theorem Bd.sm {b : Nat} {i : Int} (h : Bd b i) (hb : b ≤ 1000000000) : Sm i := by unfold Bd at h; unfold Sm; omega
theorem Bd.add {a b : Nat} {i j : Int} (h : Bd a i) (k : Bd b j) : Bd (a + b) (i + j) := by unfold Bd at *; omega
theorem Bd.mul {a b : Nat} {i j : Int} (h : Bd a i) (k : Bd b j) : Bd (a * b) (i * j) := by
  unfold Bd at *
  rw [Int.natAbs_mul]
  exact Nat.mul_le_mul h k
theorem Bd.mono {a b : Nat} {i : Int} (h : Bd a i) (k : a ≤ b) : Bd b i := Nat.le_trans h k
def putC (s fc : Str → Int) : List Str → Int → Int
  | [], c => c
  | n :: l, c => putC s fc l (c + s n * fc n)
def putV (s : Str → Int) (fv : Str → Str → Int) : List Str → (Str → Int) → Str → Int
  | [], v => v
  | n :: l, v => putV s fv l fun m => v m + s n * fv n m
theorem putC_bd {s fc : Str → Int} (hs : ∀ n, Bd 100 (s n)) (hf : ∀ n, Bd 100 (fc n)) : ∀ (l : List Str) (b : Nat) (c : Int), Bd b c → Bd (b + 10000 * l.length) (putC s fc l c)
  | [], b, c, h => h.mono (Nat.le_add_right _ _)
  | n :: l, b, c, h => by
    have := putC_bd hs hf l (b + 100 * 100) (c + s n * fc n) (h.add ((hs n).mul (hf n)))
    rw [List.length_cons]
    exact this.mono (by omega)
theorem putV_bd {s : Str → Int} {fv : Str → Str → Int} (hs : ∀ n, Bd 100 (s n)) (hf : ∀ n m, Bd 100 (fv n m)) : ∀ (l : List Str) (b : Nat) (v : Str → Int), (∀ m, Bd b (v m)) → ∀ m, Bd (b + 10000 * l.length) (putV s fv l v m)
  | [], b, c, h, m => (h m).mono (Nat.le_add_right _ _)
  | n :: l, b, c, h, m => by
    have := putV_bd hs hf l (b + 100 * 100) (fun m => c m + s n * fv n m) (fun m => (h m).add ((hs n).mul (hf n m))) m
    rw [List.length_cons]
    exact this.mono (by omega)
noncomputable abbrev pbB : Sv G := sSet (eGc (eFn (G := G) .f_combined (aCons (eC (.int 1)) (aCons (eVar 2) (aCons (eVar 4) (aCons (oM isDic kGet2 (eVar 1) (aCons (eVar 3) (aCons (eFn (G := G) .f_named (aCons (eVar 3) aNil)) aNil))) aNil)))))) (gVar 2)
theorem sm1 : Sm 1 := by unfold Sm; decide
theorem pb_loop {k r : Nat} {s fc : Str → Int} {fv : Str → Str → Int} {kvs : List (L2.Key × Val)} {x0 : Option Val} {h : Hh} (hr : h[r]? = some (.dic kvs)) (hs : ∀ n, Bd 100 (s n)) (hfc : ∀ n, Bd 100 (fc n)) (hfv : ∀ n m, Bd 100 (fv n m)) :
    ∀ (l : List Str) (b : Nat) (c : Int) (v : Str → Int) (x3 x4 : Option Val), (∀ n ∈ l, n ∈ N5 ∧ dget kvs (.inr n) = some (.d (fD (fc n) (fv n)))) → Bd b c → (∀ m, Bd b (v m)) → b + 10000 * l.length ≤ 1000000 →
    ∃ x3' x4', forGo (fun _ => True) (gTupG 2 (gConsG (gVar 3) (gConsG (gVar 4) gNilG))) (pbB (P (k + 1))) ((pD s l).map Val.d) [x0, some (.r r), some (.d (fD c v)), x3, x4] h = .nx [x0, some (.r r), some (.d (fD (putC s fc l c) (putV s fv l v))), x3', x4'] h
  | [], b, c, v, x3, x4, _, _, _, _ => ⟨x3, x4, by rw [show (pD s []).map Val.d = [] from rfl, x_forNil trivial]; rfl⟩
  | n :: l, b, c, v, x3, x4, hl, hc, hv, hb => by
    obtain ⟨n5, dg⟩ := hl n (List.mem_cons_self ..)
    rw [List.length_cons] at hb
    obtain ⟨y3, y4, e⟩ := pb_loop (k := k) (x0 := x0) hr hs hfc hfv l (b + 100 * 100) (c + s n * fc n) (fun m => v m + s n * fv n m) (some (sv n)) (some (.d (.int (s n)))) (fun m hm => hl m (List.mem_cons_of_mem _ hm)) (hc.add ((hs n).mul (hfc n))) (fun m => (hv m).add ((hs n).mul (hfv n m))) (by omega)
    refine ⟨y3, y4, ?_⟩
    show forGo _ _ _ (.d (.tup [.str n, .int (s n)]) :: (pD s l).map Val.d) _ _ = _
    rw [x_forCons trivial]
    have pc := p_combined (k := k) (h := h) sm1 ((hs n).sm (by omega)) (hc.sm (by omega)) ((hfc n).sm (by omega)) (fun m => (hv m).sm (by omega)) (fun m => (hfv n m).sm (by omega))
    have e1 : (1 : Int) * c + s n * fc n = c + s n * fc n := by rw [Int.one_mul]
    have e2 : (fun m => 1 * v m + s n * fv n m) = fun m => v m + s n * fv n m := by funext m; rw [Int.one_mul]
    rw [e1, e2] at pc
    simp [isDic, vGet2, hr, keyV, keyD, dg, psF, p_named n5, pc, gc_d0]
    exact e
theorem p_put_by {k r : Nat} {c : Int} {s fc : Str → Int} {fv : Str → Str → Int} {kvs : List (L2.Key × Val)} {h : Hh} (hr : h[r]? = some (.dic kvs)) (hc : Bd 100 c) (hs : ∀ n, Bd 100 (s n)) (hfc : ∀ n, Bd 100 (fc n)) (hfv : ∀ n m, Bd 100 (fv n m)) (hg : ∀ n ∈ nzs s, dget kvs (.inr n) = some (.d (fD (fc n) (fv n)))) :
    P (k + 2) .f_put_by [.d (fD c s), .r r] h = .ok (.d (fD (putC s fc (nzs s) c) (putV s fv (nzs s) Z0))) h := by
  rw [P_s]
  have ln := nzs_len s
  obtain ⟨y3, y4, e⟩ := pb_loop (k := k) (x0 := some (.d (fD c s))) hr hs hfc hfv (nzs s) 100 c Z0 none none (fun n hn => ⟨(nzs_mem.mp hn).1, hg n hn⟩) hc (fun _ => by show Int.natAbs 0 ≤ 100; decide) (by omega)
  have pc := p_constant (k := k) (c := c) (h := h)
  simp only [bd, b_put_by, fnR, nF, startE]
  generalize fD (putC s fc (nzs s) c) (putV s fv (nzs s) Z0) = RR at *
  generalize fD c Z0 = F0 at *
  simp only [fD] at e ⊢
  simp [vIx, seqOf, L2.atI, L2.ixN, itOf, psF, pc, e, gc_d0]
end Lw
namespace Lw
open PySem PySem.Spec Dq
/-! ### the law's own putting -/
theorem put_loop {g : Tg} {body : Dq.Env → Hh → RS} (E : Option Val → Option Val → Dq.Env) {h : Hh} {w : Str → Int} {j : Int}
    (hg : ∀ n x5 x6, g (.d (.tup [.str n, .int (w n)])) (E x5 x6) = some (E (some (sv n)) (iv (w n))))
    (hb : ∀ n ks z, ks.length ≤ 1000 → body (E (some (sv n)) (iv (w n))) (h ++ [.dic (dI ks z)]) = .nx (E (some (sv n)) (iv (w n))) (h ++ [.dic (dI (if n ∈ ks then ks else ks ++ [n]) (fun m => if m = n then (if n ∈ ks then z n else 0) + j * w n else z m))])) :
    ∀ (l ks : List Str) (z : Str → Int) (x5 x6 : Option Val), l.Nodup → ks.Nodup → ks.length + l.length ≤ 1000 →
    ∃ x5' x6' ks' z', forGo (fun _ => True) g body ((pD w l).map Val.d) (E x5 x6) (h ++ [.dic (dI ks z)]) = .nx (E x5' x6') (h ++ [.dic (dI ks' z')]) ∧ ks'.Nodup ∧ (∀ m, m ∈ ks' ↔ m ∈ ks ∨ m ∈ l) ∧ ∀ m, m ∈ ks' → z' m = (if m ∈ ks then z m else 0) + (if m ∈ l then j * w m else 0)
  | [], ks, z, x5, x6, _, nd, _ => ⟨x5, x6, ks, z, by rw [show (pD w []).map Val.d = [] from rfl, x_forNil trivial], nd, fun m => by simp, fun m hm => by simp [hm]⟩
  | n :: l, ks, z, x5, x6, nl, nd, hl => by
    obtain ⟨n1, n2⟩ := List.nodup_cons.mp nl
    rw [List.length_cons] at hl
    have nd1 : (if n ∈ ks then ks else ks ++ [n]).Nodup := by
      by_cases hn : n ∈ ks
      · rw [if_pos hn]; exact nd
      · rw [if_neg hn]
        exact List.nodup_append.mpr ⟨nd, by simp, fun a ha b hb e => hn (by rw [List.mem_singleton.mp hb] at e; exact e ▸ ha)⟩
    have len1 : (if n ∈ ks then ks else ks ++ [n]).length ≤ ks.length + 1 := by split <;> simp
    have mem1 : ∀ m, m ∈ (if n ∈ ks then ks else ks ++ [n]) ↔ m ∈ ks ∨ m = n := fun m => by
      by_cases hn : n ∈ ks
      · rw [if_pos hn]
        constructor
        · exact .inl
        · rintro (h | rfl)
          · exact h
          · exact hn
      · rw [if_neg hn]; simp
    obtain ⟨x5', x6', ks', z', e1, e2, e4, e5⟩ := put_loop E hg hb l _ (fun m => if m = n then (if n ∈ ks then z n else 0) + j * w n else z m) (some (sv n)) (iv (w n)) n2 nd1 (by omega)
    refine ⟨x5', x6', ks', z', ?_, e2, fun m => ?_, fun m hm => ?_⟩
    · show forGo _ _ _ (.d (.tup [.str n, .int (w n)]) :: (pD w l).map Val.d) _ _ = _
      rw [x_forCons trivial]
      simp only [hg, hb n ks z (by omega)]
      exact e1
    · rw [e4, mem1, List.mem_cons]
      constructor
      · rintro ((h | h) | h) <;> simp [h]
      · rintro (h | h | h) <;> simp [h]
    · rw [e5 m hm]
      by_cases e : m = n
      · subst e
        have q : m ∈ (if m ∈ ks then ks else ks ++ [m]) := (mem1 m).mpr (.inr rfl)
        rw [if_pos q, if_pos rfl, if_neg n1, if_pos (List.mem_cons_self ..)]
        omega
      · have q : (m ∈ (if n ∈ ks then ks else ks ++ [n])) ↔ m ∈ ks := by rw [mem1]; simp [e]
        have q2 : m ∈ n :: l ↔ m ∈ l := by simp [e]
        simp only [q, q2, if_neg e]
theorem fin_lc {g : Tg} {ρ : Dq.Env} {t : Dq.Env → Hh → R Bool} {e : Dq.Env → Hh → R Val} {h : Hh} {ks : List Str} {z u : Str → Int} (ρ1 : Str → Dq.Env) (nd : ks.Nodup) (hk5 : ∀ m ∈ ks, m ∈ N5) (hval : ∀ m, m ∈ ks → z m = u m) (hout : ∀ m ∈ N5, m ∉ ks → u m = 0)
    (hs : ∀ n hh, hh[h.length]? = some (O.dic (dI ks z)) → n ∈ ks → g (sv n) ρ = some (ρ1 n) ∧ t (ρ1 n) hh = .ok (decide (z n ≠ 0)) hh ∧ e (ρ1 n) hh = .ok (.d (.tup [.str n, .int (z n)])) hh) :
    ∃ SL : List Val, cSorted [.r h.length] (h ++ [O.dic (dI ks z)]) = some (.r (h.length + 1), h ++ [O.dic (dI ks z), O.lst SL]) ∧
      lcGo (h.length + 2) (fun h' => h'[h.length + 1]? = some (.lst SL)) g ρ t e SL (h ++ [O.dic (dI ks z), O.lst SL, O.lst []]) = some (h ++ [O.dic (dI ks z), O.lst SL, O.lst ((pD u (nzs u)).map Val.d)]) := by
  have hsl := sz
  have srt := srt_n5 nd hk5
  have hkl : ks.length < 64 := by
    have : (srtS ks).length = ks.length := by unfold srtS; exact List.length_mergeSort ks
    rw [srt] at this
    have := List.length_filter_le (fun n => decide (n ∈ ks)) N5
    have : N5.length = 5 := rfl
    omega
  refine ⟨(N5.filter fun n => decide (n ∈ ks)).map sv, ?_, ?_⟩
  · unfold cSorted
    simp only [get_last, dI_keys, textKeys_inr, Option.bind_some, if_pos hkl, srt]
    simp
  · have hl2 : ((N5.filter fun n => decide (n ∈ ks)).map sv).length ≤ 5 := by
      rw [List.length_map]
      exact List.length_filter_le (fun n => decide (n ∈ ks)) N5
    have lc := lc_run (g := g) (ρ := ρ) (t := t) (e := e) (chk := fun h' => h'[h.length + 1]? = some (.lst ((N5.filter fun n => decide (n ∈ ks)).map sv))) (ffZ z) (h ++ [O.dic (dI ks z), O.lst ((N5.filter fun n => decide (n ∈ ks)).map sv)]) ((N5.filter fun n => decide (n ∈ ks)).map sv) []
      (fun a => by rw [List.getElem?_append_left (by simp)]; rw [List.getElem?_append_right (by omega)]; simp) (by show 0 + _ ≤ _; omega) (fun x hx a => by
        obtain ⟨n, hn, rfl⟩ := List.mem_map.mp hx
        have hnk : n ∈ ks := by simpa using (List.mem_filter.mp hn).2
        obtain ⟨s1, s2, s3⟩ := hs n (h ++ [O.dic (dI ks z), O.lst ((N5.filter fun n => decide (n ∈ ks)).map sv)] ++ [O.lst a]) (by rw [List.append_assoc, List.getElem?_append_right (Nat.le_refl _)]; simp) hnk
        refine ⟨ρ1 n, s1, ?_⟩
        by_cases h0 : z n = 0
        · exact .inl ⟨by simp [h0], by rw [s2]; simp [h0]⟩
        · exact .inr ⟨.d (.tup [.str n, .int (z n)]), by simp [h0], by rw [s2]; simp [h0], s3⟩)
    rw [List.nil_append, filt_pairs hval N5 hout] at lc
    simp only [List.length_append, List.length_cons, List.length_nil, Nat.zero_add, List.append_assoc, List.cons_append, List.nil_append] at lc
    exact lc
noncomputable abbrev lpI : Sv G := sPut (o2 vAdd (oM isDic kGet2 (eVar 2) (aCons (eVar 7) (aCons (eC (.int 0)) aNil))) (o2 vMul (eVar 5) (eVar 8))) (eVar 2) (eVar 7)
noncomputable abbrev lpB : Sv G := (sSeq (sSet (oM isDic kGet2 (eVar 1) (aCons (eVar 4) (aCons (eTup (aCons (eC (.int 0)) (aCons (eTup (aCons (eTup (aCons (eVar 4) (aCons (eC (.int 1)) aNil))) aNil)) aNil))) aNil))) (gVar 6))
    (sSeq (sSet (o2 vAdd (eVar 3) (o2 vMul (eVar 5) (o2 vIx (eVar 6) (eC (.int 0))))) (gVar 3))
    (sFor (iSeq (o2 vIx (eVar 6) (eC (.int 1)))) (gTupG 2 (gConsG (gVar 7) (gConsG (gVar 8) gNilG))) lpI)))
/-- what a dict says of a name -/
def eff (ks : List Str) (z : Str → Int) (m : Str) : Int := if m ∈ ks then z m else 0
theorem lp_loop {T : Tab G} {r : Nat} {s fc : Str → Int} {fv : Str → Str → Int} {kvs : List (L2.Key × Val)} {x0 : Option Val} {h : Hh} (hr : h[r]? = some (.dic kvs)) (hs : ∀ n, Bd 100 (s n)) (hfc : ∀ n, Bd 100 (fc n)) (hfv : ∀ n m, Bd 100 (fv n m)) :
    ∀ (l : List Str) (c : Int) (v : Str → Int) (ks : List Str) (z : Str → Int) (x4 x5 x6 x7 x8 : Option Val), (∀ n ∈ l, dget kvs (.inr n) = some (.d (fD (fc n) (fv n)))) → ks.Nodup → (∀ m ∈ ks, m ∈ N5) → (∀ m ∈ N5, eff ks z m = v m) →
    ∃ x4' x5' x6' x7' x8' ks' z', forGo (fun _ => True) (gTupG 2 (gConsG (gVar 4) (gConsG (gVar 5) gNilG))) (lpB T) ((pD s l).map Val.d) [x0, some (.r r), some (.r h.length), iv c, x4, x5, x6, x7, x8] (h ++ [.dic (dI ks z)]) =
      .nx [x0, some (.r r), some (.r h.length), iv (putC s fc l c), x4', x5', x6', x7', x8'] (h ++ [.dic (dI ks' z')]) ∧ ks'.Nodup ∧ (∀ m ∈ ks', m ∈ N5) ∧ ∀ m ∈ N5, eff ks' z' m = putV s fv l v m
  | [], c, v, ks, z, x4, x5, x6, x7, x8, _, nd, h5, he => ⟨x4, x5, x6, x7, x8, ks, z, by rw [show (pD s []).map Val.d = [] from rfl, x_forNil trivial]; rfl, nd, h5, he⟩
  | n :: l, c, v, ks, z, x4, x5, x6, x7, x8, hl, nd, h5, he => by
    have dg := hl n (List.mem_cons_self ..)
    have hsl := sz
    have z1 : (1 : Nat) ≤ sizeLine := by omega
    have z2 : (2 : Nat) ≤ sizeLine := by omega
    have kl : ks.length ≤ 5 := by
      have e := srt_n5 nd h5
      have : (srtS ks).length = ks.length := by unfold srtS; exact List.length_mergeSort ks
      rw [e] at this
      have := List.length_filter_le (fun n => decide (n ∈ ks)) N5
      have : N5.length = 5 := rfl
      omega
    have ln := nzs_len (fv n)
    obtain ⟨y7, y8, k1, z1', e1, nd1, mem1, val1⟩ := put_loop (g := gTupG 2 (gConsG (gVar 7) (gConsG (gVar 8) gNilG))) (body := lpI T) (fun a b => [x0, some (.r r), some (.r h.length), iv (c + s n * fc n), some (sv n), iv (s n), some (.d (fD (fc n) (fv n))), a, b]) (h := h) (w := fv n) (j := s n)
      (fun m a b => by simp [iv]) (fun m ks z hlk => by
        have hg : (h ++ [O.dic (dI ks z)])[h.length]? = some (.dic (dI ks z)) := by simp
        have hl2 : (dI ks z).length < sizeLine := by rw [dI_len]; omega
        have hset : ∀ q, (h ++ [O.dic (dI ks z)]).set h.length (.dic q) = h ++ [.dic q] := fun q => by
          rw [List.set_append_right _ _ (Nat.le_refl _)]
          simp
        have mo := fun hh => mul_ok (h := hh) ((hs n).sm (by omega)) ((hfv n m).sm (by omega))
        simp only [iv]
        by_cases hn : m ∈ ks
        · simp [isDic, vGet2, hg, keyV, keyD, dI_get, hn, mo, vAdd, vPut, hl2, dI_put, hset]
        · simp [isDic, vGet2, hg, keyV, keyD, dI_get, hn, mo, vAdd, vPut, hl2, dI_put, hset]) (nzs (fv n)) ks z x7 x8 (nzs_nodup _) nd (by omega)
    have h51 : ∀ m ∈ k1, m ∈ N5 := fun m hm => by
      rcases (mem1 m).mp hm with q | q
      · exact h5 m q
      · exact (nzs_mem.mp q).1
    have he1 : ∀ m ∈ N5, eff k1 z1' m = v m + s n * fv n m := fun m m5 => by
      have q0 := he m m5
      unfold eff at q0 ⊢
      have a2 : (if m ∈ nzs (fv n) then s n * fv n m else 0) = s n * fv n m := by
        by_cases h : m ∈ nzs (fv n)
        · rw [if_pos h]
        · rw [if_neg h]
          have : fv n m = 0 := by
            by_cases e : fv n m = 0
            · exact e
            · exact absurd (nzs_mem.mpr ⟨m5, e⟩) h
          rw [this, Int.mul_zero]
      by_cases hm : m ∈ k1
      · rw [if_pos hm, val1 m hm, q0, a2]
      · rw [if_neg hm]
        have h1 : m ∉ ks := fun q => hm ((mem1 m).mpr (.inl q))
        have h2 : m ∉ nzs (fv n) := fun q => hm ((mem1 m).mpr (.inr q))
        rw [if_neg h1] at q0
        rw [if_neg h2] at a2
        rw [← q0, ← a2]
        rfl
    obtain ⟨y4, y5, y6, w7, w8, k2, z2', e2, nd2, h52, he2⟩ := lp_loop (T := T) (x0 := x0) hr hs hfc hfv l (c + s n * fc n) (fun m => v m + s n * fv n m) k1 z1' (some (sv n)) (iv (s n)) (some (.d (fD (fc n) (fv n)))) y7 y8 (fun m hm => hl m (List.mem_cons_of_mem _ hm)) nd1 h51 he1
    refine ⟨y4, y5, y6, w7, w8, k2, z2', ?_, nd2, h52, he2⟩
    show forGo _ _ _ (.d (.tup [.str n, .int (s n)]) :: (pD s l).map Val.d) _ _ = _
    rw [x_forCons trivial]
    have hr2 : (h ++ [O.dic (dI ks z)])[r]? = some (.dic kvs) := by
      rw [List.getElem?_append_left (List.getElem?_eq_some_iff.mp hr).1]
      exact hr
    have mo := fun hh => mul_ok (h := hh) ((hs n).sm (by omega)) ((hfc n).sm (by omega))
    simp only [iv, fD] at e1 e2 dg ⊢
    simp [isDic, vGet2, hr2, keyV, keyD, dg, mkTup, allD, z1, z2, vIx, seqOf, L2.atI, L2.ixN, mo, add_ii, itOf, e1]
    exact e2
theorem p_law_put {k r : Nat} {c : Int} {s fc : Str → Int} {fv : Str → Str → Int} {kvs : List (L2.Key × Val)} {h : Hh} (hr : h[r]? = some (.dic kvs)) (hs : ∀ n, Bd 100 (s n)) (hfc : ∀ n, Bd 100 (fc n)) (hfv : ∀ n m, Bd 100 (fv n m)) (hg : ∀ n ∈ nzs s, dget kvs (.inr n) = some (.d (fD (fc n) (fv n)))) :
    P (k + 1) .f__law_put [.d (fD c s), .r r] h = .ok (.d (fD (putC s fc (nzs s) c) (putV s fv (nzs s) Z0))) h := by
  rw [P_s]
  have hsl := sz
  have z2 : (2 : Nat) ≤ sizeLine := by omega
  obtain ⟨y4, y5, y6, y7, y8, ks, z, e, nd, h5, he⟩ := lp_loop (T := P k) (x0 := some (.d (fD c s))) hr hs hfc hfv (nzs s) c Z0 [] Z0 none none none none none hg List.nodup_nil (fun m hm => by cases hm) (fun m _ => rfl)
  obtain ⟨SL, e1, e2⟩ := fin_lc (g := gVar 4) (ρ := [some (.d (fD c s)), some (.r r), some (.r h.length), iv (putC s fc (nzs s) c), none, y5, y6, y7, y8]) (t := qVal (G := G) (o2 vNe (o2 vIx (eVar 2) (eVar 4)) (eC (.int 0))) (P k)) (e := eTup (G := G) (aCons (eVar 4) (aCons (o2 vIx (eVar 2) (eVar 4)) aNil)) (P k)) (h := h) (z := z) (u := putV s fv (nzs s) Z0)
    (fun n => [some (.d (fD c s)), some (.r r), some (.r h.length), iv (putC s fc (nzs s) c), some (sv n), y5, y6, y7, y8]) nd h5 (fun m hm => by
      have q := he m (h5 m hm)
      unfold eff at q
      rw [if_pos hm] at q
      exact q) (fun m m5 hm => by
      have q := he m m5
      unfold eff at q
      rw [if_neg hm] at q
      exact q.symm) (fun n hh hd hn => by
      have ix : vIx (.r h.length) (.d (.str n)) hh = some (.d (.int (z n)), hh) := by simp [vIx, hd, dI_get, hn]
      refine ⟨rfl, ?_, ?_⟩
      · simp [ix, vNe, eqB, scalD, D.eqv]
        rw [Bool.eq_iff_iff]
        simp
      · simp [ix, mkTup, allD, z2])
  have gt : gc h (.ok (.t [.r h.length, .d (.int c)]) (h ++ [O.dic []])) = .ok (.t [.r h.length, .d (.int c)]) (h ++ [O.dic []]) := by
    rw [gc_ok (by rw [List.take_left]), if_neg (by simp [Val.bel, belAll])]
  have hsg : (h ++ [O.dic (dI ks z), O.lst SL])[h.length + 1]? = some (O.lst SL) := by
    rw [List.getElem?_append_right (by omega)]
    simp
  have tp : ∀ PL, cTuple [.r (h.length + 2)] (h ++ [O.dic (dI ks z), O.lst SL, O.lst (List.map Val.d PL)]) = some (.d (.tup PL), h ++ [O.dic (dI ks z), O.lst SL, O.lst (List.map Val.d PL)]) := fun PL => by
    have hg : (h ++ [O.dic (dI ks z), O.lst SL, O.lst (List.map Val.d PL)])[h.length + 2]? = some (O.lst (List.map Val.d PL)) := by
      rw [List.getElem?_append_right (by omega)]
      simp
    simp only [cTuple, tupOf, lstOf, hg, Option.map_some, mkTup_map]
  have ed : dI [] Z0 = [] := rfl
  rw [ed] at e
  simp only [fD, iv] at e e2 ⊢
  generalize pD (putV s fv (nzs s) Z0) (nzs (putV s fv (nzs s) Z0)) = PL at *
  simp only [bd, b__law_put, fnR, nF, startE]
  simp [vIx, seqOf, L2.atI, L2.ixN, itOf, wipeE, mkTup, allD, z2, gt, tupOf] at e e2 ⊢
  simp [e, e1, e2, hsg, tp, gc_d, mkTup, allD, z2]
end Lw
namespace Lw
open PySem PySem.Spec Dq
theorem max_nn {a b : Nat} {h : Hh} : cMax [.d (.int (a : Int)), .d (.int (b : Int))] h = some (.d (.int ((max a b : Nat) : Int)), h) := by
  have : (if (b : Int) > (a : Int) then (b : Int) else (a : Int)) = ((max a b : Nat) : Int) := by
    split <;> omega
  exact congrArg (fun i => some (Val.d (.int i), h)) this
theorem min_nn {a b : Nat} {h : Hh} : cMin [.d (.int (a : Int)), .d (.int (b : Int))] h = some (.d (.int ((min a b : Nat) : Int)), h) := by
  have : (if (b : Int) < (a : Int) then (b : Int) else (a : Int)) = ((min a b : Nat) : Int) := by
    split <;> omega
  exact congrArg (fun i => some (Val.d (.int i), h)) this
theorem gcd_mm (a b : Nat) : Nat.gcd (max a b) (min a b) = Nat.gcd a b := by
  rcases Nat.le_total a b with h | h
  · rw [Nat.max_eq_right h, Nat.min_eq_left h, Nat.gcd_comm]
  · rw [Nat.max_eq_left h, Nat.min_eq_right h]
noncomputable abbrev lsB : Sv G := sSet (eFn (G := G) .f__law_divisor (aCons (eB cMax (aCons (eVar 1) (aCons (eB cAbs (aCons (eVar 3) aNil)) aNil))) (aCons (eB cMin (aCons (eVar 1) (aCons (eB cAbs (aCons (eVar 3) aNil)) aNil))) aNil))) (gVar 1)
theorem lsize_loop {k : Nat} {v : Str → Int} {x0 : Option Val} {h : Hh} : ∀ (l : List Str) (g : Nat) (x2 x3 : Option Val), ∃ x2' x3', forGo (fun _ => True) (gTupG 2 (gConsG (gVar 2) (gConsG (gVar 3) gNilG))) (lsB (P (k + 1))) ((pD v l).map Val.d) [x0, iv (g : Int), x2, x3] h =
    .nx [x0, iv ((gF v l g : Nat) : Int), x2', x3'] h
  | [], g, x2, x3 => ⟨x2, x3, by rw [show (pD v []).map Val.d = [] from rfl, x_forNil trivial]; rfl⟩
  | n :: l, g, x2, x3 => by
    obtain ⟨y2, y3, e⟩ := lsize_loop (k := k) (v := v) (x0 := x0) (h := h) l (Nat.gcd g (v n).natAbs) (some (sv n)) (iv (v n))
    refine ⟨y2, y3, ?_⟩
    show forGo _ _ _ (.d (.tup [.str n, .int (v n)]) :: (pD v l).map Val.d) _ _ = _
    rw [x_forCons trivial]
    have pd := p_law_divisor (k := k) (a := max g (v n).natAbs) (b := min g (v n).natAbs) (h := h)
    rw [gcd_mm] at pd
    have ab : cAbs [.d (.int (v n))] h = some (.d (.int ((v n).natAbs : Int)), h) := by simp only [cAbs, abs_nat]
    simp only [iv] at e ⊢
    simp [ab, max_nn, min_nn, psF, pd]
    try simp at e
    exact e
theorem p_law_normal {k : Nat} {c : Int} {v : Str → Int} (hv : ∀ n, Sm (v n)) {h : Hh} : P (k + 2) .f__law_normal [.d (fD c v)] h = .ok (.d (aD (nC c v) (nV v))) h := by
  rw [P_s]
  have hsl := sz
  have lv := nzs_len v
  have z0 : (0 : Nat) ≤ sizeLine := by omega
  have z2 : (2 : Nat) ≤ sizeLine := by omega
  obtain ⟨y2, y3, e⟩ := lsize_loop (k := k) (v := v) (x0 := some (.d (fD c v))) (h := h) (nzs v) 0 none none
  by_cases hg : gV v = 0
  · have e0 : gF v (nzs v) 0 = 0 := hg
    have en : nzs (nV v) = [] := by
      unfold nV
      rw [hg]
      have : (fun n => v n / ((0 : Nat) : Int)) = Z0 := by funext n; simp
      rw [this, nzs_zero]
    have ea : aD (nC c v) (nV v) = .tup [.str "least", .tup [.int (if c ≥ 0 then 0 else -1), .tup []]] := by
      unfold aD fD nC pD
      rw [en, if_pos hg]
      rfl
    rw [ea]
    rw [e0] at e
    simp only [fD] at e ⊢
    simp only [bd, b__law_normal, fnR, nF, startE]
    simp [vIx, seqOf, L2.atI, L2.ixN, itOf] at e ⊢
    simp [e, vEq, eqB, scalD, D.eqv, vGe, vIntB]
    by_cases hc : c ≥ 0
    · simp [hc, gc_d0, mkTup, allD, z0, z2]
    · simp [hc, gc_d0, mkTup, allD, z0, z2, vNeg]
  · have hpos : 0 < gV v := by omega
    have hlog := gV_log hv hg
    have lc := lc_map (g := gTupG 2 (gConsG (gVar 2) (gConsG (gVar 3) gNilG))) (ρ := [some (.d (fD c v)), iv (gV v : Int), none, none]) (t := qYes (G := G) (P (k + 1))) (e := eTup (G := G) (aCons (eVar 2) (aCons (o2 vDiv (eVar 3) (eVar 1)) aNil)) (P (k + 1))) (chk := fun _ => True)
      (fun u => match u with | .d (.tup [.str n, .int s]) => .d (.tup [.str n, .int (s / (gV v : Int))]) | u => u) h ((pD v (nzs v)).map Val.d) (fun _ => trivial) (by rw [List.length_map, pD_len]; omega) (fun u hu a => by
        obtain ⟨x, hx, rfl⟩ := List.mem_map.mp hu
        obtain ⟨n, hn, rfl⟩ := List.mem_map.mp hx
        refine ⟨[some (.d (fD c v)), iv (gV v : Int), some (sv n), iv (v n)], by simp [iv], rfl, ?_⟩
        simp only [iv]
        simp [div_ii, hpos, hlog, mkTup, allD, z2])
    have el : ((pD v (nzs v)).map Val.d).map (fun u => match u with | .d (.tup [.str n, .int s]) => Val.d (.tup [.str n, .int (s / (gV v : Int))]) | u => u) = (pD (nV v) (nzs (nV v))).map Val.d := by
      rw [nzs_nV hg]
      unfold pD nV
      rw [List.map_map, List.map_map, List.map_map]
      rfl
    rw [el] at lc
    have ea : nC c v = c / (gV v : Int) := by unfold nC; rw [if_neg hg]
    have b0 : ((gV v : Int) == 0) = false := by simp [hg]
    have tp : cTuple [.r h.length] (h ++ [O.lst ((pD (nV v) (nzs (nV v))).map Val.d)]) = some (.d (.tup (pD (nV v) (nzs (nV v)))), h ++ [O.lst ((pD (nV v) (nzs (nV v))).map Val.d)]) := by
      simp only [cTuple, tupOf, lstOf, get_last, Option.map_some, mkTup_map]
    unfold aD
    rw [ea]
    have e' : gF v (nzs v) 0 = gV v := rfl
    rw [e'] at e
    simp only [fD, iv] at e lc ⊢
    generalize gV v = gg at *
    generalize pD (nV v) (nzs (nV v)) = PL at *
    simp only [bd, b__law_normal, fnR, nF, startE]
    simp [vIx, seqOf, L2.atI, L2.ixN, itOf, wipeE] at e lc ⊢
    simp [e, lc, vEq, eqB, scalD, D.eqv, b0, div_ii, hpos, hlog, tp, mkTup, allD, z2, gc_d]
/-- what divides, at least 1 -/
def sC (v : Str → Int) : Int := ((max (gV v) 1 : Nat) : Int)
theorem p_law_scale {k : Nat} {c : Int} {v : Str → Int} {h : Hh} : P (k + 2) .f__law_scale [.d (fD c v)] h = .ok (.d (.int (sC v))) h := by
  rw [P_s]
  obtain ⟨y2, y3, e⟩ := lsize_loop (k := k) (v := v) (x0 := some (.d (fD c v))) (h := h) (nzs v) 0 none none
  have m := max_nn (a := gF v (nzs v) 0) (b := 1) (h := h)
  unfold sC
  simp only [fD, iv] at e ⊢
  simp only [bd, b__law_scale, fnR, nF, startE]
  simp [vIx, seqOf, L2.atI, L2.ixN, itOf] at e m ⊢
  simp [e, m, gc_d0]
end Lw
namespace Lw
open PySem PySem.Spec Dq
noncomputable abbrev scB : Sv G := sSet (eFn (G := G) .f_divisor (aCons (eVar 2) (aCons (eVar 4) aNil))) (gVar 2)
theorem sc_loop {k : Nat} {v : Str → Int} {x0 x1 : Option Val} {h : Hh} : ∀ (l : List Str) (g : Nat) (x3 x4 : Option Val), ∃ x3' x4', forGo (fun _ => True) (gTupG 2 (gConsG (gVar 3) (gConsG (gVar 4) gNilG))) (scB (P (k + 1))) ((pD v l).map Val.d) [x0, x1, iv (g : Int), x3, x4] h =
    .nx [x0, x1, iv ((gF v l g : Nat) : Int), x3', x4'] h
  | [], g, x3, x4 => ⟨x3, x4, by rw [show (pD v []).map Val.d = [] from rfl, x_forNil trivial]; rfl⟩
  | n :: l, g, x3, x4 => by
    obtain ⟨y2, y3, e⟩ := sc_loop (k := k) (v := v) (x0 := x0) (x1 := x1) (h := h) l (Nat.gcd g (v n).natAbs) (some (sv n)) (iv (v n))
    refine ⟨y2, y3, ?_⟩
    show forGo _ _ _ (.d (.tup [.str n, .int (v n)]) :: (pD v l).map Val.d) _ _ = _
    rw [x_forCons trivial]
    have pd := p_divisor (k := k) (i := (g : Int)) (j := v n) (h := h)
    rw [Int.natAbs_natCast] at pd
    simp only [iv] at e ⊢
    simp [psF, pd]
    exact e
theorem p_scale {k r : Nat} {c : Int} {s fc : Str → Int} {fv : Str → Str → Int} {kvs : List (L2.Key × Val)} {h : Hh} (hr : h[r]? = some (.dic kvs)) (hc : Bd 100 c) (hs : ∀ n, Bd 100 (s n)) (hfc : ∀ n, Bd 100 (fc n)) (hfv : ∀ n m, Bd 100 (fv n m)) (hg : ∀ n ∈ nzs s, dget kvs (.inr n) = some (.d (fD (fc n) (fv n)))) :
    P (k + 3) .f__scale [.d (aD c s), .r r] h = .ok (.d (.int (sC (putV s fv (nzs s) Z0)))) h := by
  rw [P_s]
  have pb := p_put_by (k := k) hr hc hs hfc hfv hg
  generalize putV s fv (nzs s) Z0 = v at *
  generalize putC s fc (nzs s) c = c' at *
  obtain ⟨y2, y3, e⟩ := sc_loop (k := k + 1) (v := v) (x0 := some (.d (aD c s))) (x1 := some (.r r)) (h := h) (nzs v) 0 none none
  have m := max_nn (a := gF v (nzs v) 0) (b := 1) (h := h)
  unfold sC
  simp only [aD, iv] at e ⊢
  generalize fD c s = A at *
  simp only [fD] at e pb
  simp only [bd, b__scale, fnR, nF, startE]
  simp [vIx, seqOf, L2.atI, L2.ixN, itOf, psF, pb, gc_d0] at e m ⊢
  simp [e, m, gc_d0]
/-! ### sums of atoms -/
def sumC (ac : Nat → Int) : List (Nat × Int) → Int → Int
  | [], c => c
  | p :: l, c => sumC ac l (c + p.2 * ac p.1)
def sumV (av : Nat → Str → Int) : List (Nat × Int) → (Str → Int) → Str → Int
  | [], v => v
  | p :: l, v => sumV av l fun m => v m + p.2 * av p.1 m
theorem sumV_bd {av : Nat → Str → Int} (hv : ∀ i n, Bd 100 (av i n)) : ∀ (l : List (Nat × Int)) (b : Nat) (v : Str → Int), (∀ p ∈ l, Bd 100 p.2) → (∀ m, Bd b (v m)) → ∀ m, Bd (b + 10000 * l.length) (sumV av l v m)
  | [], b, c, _, h, m => (h m).mono (Nat.le_add_right _ _)
  | p :: l, b, c, hp, h, m => by
    have := sumV_bd hv l (b + 100 * 100) (fun m => c m + p.2 * av p.1 m) (fun q hq => hp q (List.mem_cons_of_mem _ hq)) (fun m => (h m).add ((hp p (List.mem_cons_self ..)).mul (hv p.1 m))) m
    rw [List.length_cons]
    exact this.mono (by omega)
def pairD (l : List (Nat × Int)) : List D := l.map fun p => .tup [.int (p.1 : Int), .int p.2]
noncomputable abbrev smB : Sv G := sSet (eFn (G := G) .f_combined (aCons (eC (.int 1)) (aCons (eVar 2) (aCons (eVar 4) (aCons (o2 vIx (o2 vIx (eVar 0) (eVar 3)) (eC (.int 1))) aNil))))) (gVar 2)
theorem ix_nat {vs : List Val} {i n : Nat} {v : Val} {h : Hh} (hn : h[n]? = some (.lst vs)) (hv : vs[i]? = some v) : vIx (.r n) (.d (.int (i : Int))) h = some (v, h) := by
  obtain ⟨hi, e⟩ := List.getElem?_eq_some_iff.mp hv
  simp [vIx, hn, L2.atI, L2.ixN, hi, e]
theorem sm_loop {k n : Nat} {ac : Nat → Int} {av : Nat → Str → Int} {vs : List Val} {x1 : Option Val} {h : Hh} (hn : h[n]? = some (.lst vs)) (hc : ∀ i, Bd 100 (ac i)) (hv : ∀ i m, Bd 100 (av i m)) :
    ∀ (l : List (Nat × Int)) (b : Nat) (c : Int) (v : Str → Int) (x3 x4 : Option Val), (∀ p ∈ l, Bd 100 p.2 ∧ vs[p.1]? = some (.d (aD (ac p.1) (av p.1)))) → Bd b c → (∀ m, Bd b (v m)) → b + 10000 * l.length ≤ 1000000 →
    ∃ x3' x4', forGo (fun _ => True) (gTupG 2 (gConsG (gVar 3) (gConsG (gVar 4) gNilG))) (smB (P (k + 1))) ((pairD l).map Val.d) [some (.r n), x1, some (.d (fD c v)), x3, x4] h = .nx [some (.r n), x1, some (.d (fD (sumC ac l c) (sumV av l v))), x3', x4'] h
  | [], b, c, v, x3, x4, _, _, _, _ => ⟨x3, x4, by rw [show (pairD []).map Val.d = [] from rfl, x_forNil trivial]; rfl⟩
  | p :: l, b, c, v, x3, x4, hl, bc, bv, hb => by
    obtain ⟨bp, hp⟩ := hl p (List.mem_cons_self ..)
    rw [List.length_cons] at hb
    obtain ⟨y3, y4, e⟩ := sm_loop (k := k) (x1 := x1) hn hc hv l (b + 100 * 100) (c + p.2 * ac p.1) (fun m => v m + p.2 * av p.1 m) (iv (p.1 : Int)) (iv p.2) (fun q hq => hl q (List.mem_cons_of_mem _ hq)) (bc.add (bp.mul (hc p.1))) (fun m => (bv m).add (bp.mul (hv p.1 m))) (by omega)
    refine ⟨y3, y4, ?_⟩
    show forGo _ _ _ (.d (.tup [.int (p.1 : Int), .int p.2]) :: (pairD l).map Val.d) _ _ = _
    rw [x_forCons trivial]
    have pc := p_combined (k := k) (h := h) sm1 (bp.sm (by omega)) (bc.sm (by omega)) ((hc p.1).sm (by omega)) (fun m => (bv m).sm (by omega)) (fun m => (hv p.1 m).sm (by omega))
    have e1 : (1 : Int) * c + p.2 * ac p.1 = c + p.2 * ac p.1 := by rw [Int.one_mul]
    have e2 : (fun m => 1 * v m + p.2 * av p.1 m) = fun m => v m + p.2 * av p.1 m := by funext m; rw [Int.one_mul]
    rw [e1, e2] at pc
    have ix := ix_nat hn hp
    simp only [iv, aD] at e ix ⊢
    have ix2 : ∀ A B : D, vIx (.d (.tup [A, B])) (.d (.int 1)) h = some (.d B, h) := fun A B => by simp [vIx, seqOf, L2.atI, L2.ixN]
    simp [ix, ix2, psF, pc]
    exact e
theorem p_sum_of {k n : Nat} {ac : Nat → Int} {av : Nat → Str → Int} {vs : List Val} {l : List (Nat × Int)} {h : Hh} (hn : h[n]? = some (.lst vs)) (hc : ∀ i, Bd 100 (ac i)) (hv : ∀ i m, Bd 100 (av i m)) (hl : ∀ p ∈ l, Bd 100 p.2 ∧ vs[p.1]? = some (.d (aD (ac p.1) (av p.1)))) (h9 : l.length ≤ 9) :
    P (k + 3) .f_sum_of [.r n, .d (.tup (pairD l))] h = .ok (.d (aD (nC (sumC ac l 0) (sumV av l Z0)) (nV (sumV av l Z0)))) h := by
  rw [P_s]
  obtain ⟨y3, y4, e⟩ := sm_loop (k := k + 1) (x1 := some (.d (.tup (pairD l)))) hn hc hv l 0 0 Z0 none none hl (by show Int.natAbs 0 ≤ 0; decide) (fun _ => by show Int.natAbs 0 ≤ 0; decide) (by omega)
  have sm : ∀ m, Sm (sumV av l Z0 m) := fun m => (sumV_bd hv l 0 Z0 (fun p hp => (hl p hp).1) (fun _ => by show Int.natAbs 0 ≤ 0; decide) m).sm (by omega)
  have pn := p_normal (k := k) (c := sumC ac l 0) sm (h := h)
  have pc := p_constant (k := k + 1) (c := 0) (h := h)
  simp only [bd, b_sum_of, fnR, nF, startE]
  simp [itOf, seqOf, psF, pc, e, pn, gc_d0]
end Lw
namespace Dq
theorem gc_ne {h h' : Hh} {v : Val} (ne : h'.take h.length ≠ h) : gc h (.ok v h') = .ok v h' := by
  unfold gc
  simp only [if_neg ne]
theorem gcB_ne {h h' : Hh} {b : Bool} (ne : h'.take h.length ≠ h) : gcB h (.ok b h') = .ok b h' := by
  unfold gcB
  simp only [if_neg ne]
end Dq
namespace Lw
open PySem PySem.Spec Dq
/-! ### what a question must be -/
theorem keys_fold : ∀ (l : List Str) (acc : List (L2.Key × Val)), l.Nodup → (∀ n ∈ l, ∀ p ∈ acc, p.1 ≠ .inr n) → (((l.map sv).foldl (fun q u => dput q (match u with | .d (.str n) => .inr n | _ => .inl 0) (.d (.bl true))) acc)).length = acc.length + l.length
  | [], acc, _, _ => by simp
  | n :: l, acc, nd, h => by
    obtain ⟨n1, n2⟩ := List.nodup_cons.mp nd
    have e : dput acc (.inr n) (.d (.bl true)) = acc ++ [(.inr n, .d (.bl true))] := by
      unfold dput
      rw [if_neg]
      intro ha
      obtain ⟨p, hp, ep⟩ := List.any_eq_true.mp ha
      exact h n (List.mem_cons_self ..) p hp (of_decide_eq_true ep)
    simp only [List.map_cons, List.foldl_cons, e]
    rw [keys_fold l _ n2 (fun m hm p hp => by
      rcases List.mem_append.mp hp with q | q
      · exact h m (List.mem_cons_of_mem _ hm) p q
      · rw [List.mem_singleton.mp q]
        intro z
        have z := Sum.inr.inj z
        exact n1 (by rw [z]; exact hm))]
    simp
    omega
theorem p_check_names {k : Nat} {ns : List Str} (h5 : ∀ n ∈ ns, n ∈ N5) (nd : ns.Nodup) (hl : ns.length ≤ 5) {h : Hh} : P (k + 2) .f_check_names [.d (.tup (ns.map D.str))] h = .ok (.d .non) h := by
  rw [P_s]
  have hsl := sz
  have em : (ns.map D.str).map Val.d = ns.map sv := by rw [List.map_map]; rfl
  have l1 := lc_tr (g := gVar 1) (ρ := [some (.d (.tup (ns.map D.str))), none, none]) (t := qYes (G := G) (P (k + 1))) (e := eFn (G := G) .f_is_name (aCons (eVar 1) aNil) (P (k + 1))) (chk := fun _ => True) h (ns.map sv) (fun _ => trivial) (by rw [List.length_map]; omega) (fun u hu a => by
    obtain ⟨n, hn, rfl⟩ := List.mem_map.mp hu
    refine ⟨_, rfl, rfl, ?_⟩
    have := p_is_name (k := k) (h5 n hn) (h := h ++ [O.lst a])
    simp [psF, this])
  have d1 := dc_run (g := gVar 2) (ρ := [some (.d (.tup (ns.map D.str))), none, none]) (t := qYes (G := G) (P (k + 1))) (a := eVar (G := G) 2 (P (k + 1))) (e := eC (G := G) (.bl true) (P (k + 1))) (chk := fun _ => True) (fun u => match u with | .d (.str n) => .inr n | _ => .inl 0) (fun _ => .d (.bl true)) h (ns.map sv) [] (fun _ => trivial) (by rw [List.length_map]; show 0 + _ ≤ _; omega) (fun u hu q => by
    obtain ⟨n, hn, rfl⟩ := List.mem_map.mp hu
    exact ⟨[some (.d (.tup (ns.map D.str))), none, some (sv n)], sv n, rfl, rfl, rfl, rfl, rfl⟩)
  have kl := keys_fold ns [] nd (fun _ _ p hp => by cases hp)
  generalize List.foldl _ ([] : List (L2.Key × Val)) (ns.map sv) = Q at d1 kl
  have kl2 : (Q.length : Int) = (ns.length : Int) := by rw [kl]; simp
  have c1 : decide ((12 : Int) < (ns.length : Int)) = false := decide_eq_false (by omega)
  have c2 : ((ns.length : Int) == (ns.length : Int)) = true := by simp
  simp only [bd, b_check_names, fnR, nF, startE]
  simp [-List.map_map, em, vIsi, tyN, isTy, truB, cLen, lenB, seqOf, vGt, vIntB, c1, itOf, wipeE, l1, all_last, gc_d, gcB_ok, d1, kl2, vNe, eqB, scalD, D.eqv, gc_d0, gcB_ok0, gc_d]
theorem p_names_by {k : Nat} {c : Int} {v : Str → Int} {h : Hh} : P (k + 1) .f_names_by [.d (fD c v)] h = .ok (.r h.length) (h ++ [O.lst ((nzs v).map sv)]) := by
  rw [P_s]
  have hsl := sz
  have lv := nzs_len v
  have lc := lc_map (g := gTupG 2 (gConsG (gVar 1) (gConsG (gVar 2) gNilG))) (ρ := [some (.d (fD c v)), none, none]) (t := qYes (G := G) (P k)) (e := eVar (G := G) 1 (P k)) (chk := fun _ => True) (fun u => match u with | .d (.tup (n :: _)) => .d n | u => u) h ((pD v (nzs v)).map Val.d) (fun _ => trivial) (by rw [List.length_map, pD_len]; omega) (fun u hu a => by
    obtain ⟨x, hx, rfl⟩ := List.mem_map.mp hu
    obtain ⟨n, hn, rfl⟩ := List.mem_map.mp hx
    exact ⟨[some (.d (fD c v)), some (sv n), iv (v n)], by simp [iv], rfl, rfl⟩)
  have e3 : ((pD v (nzs v)).map Val.d).map (fun u => match u with | .d (.tup (n :: _)) => Val.d n | u => u) = (nzs v).map sv := by
    unfold pD
    rw [List.map_map, List.map_map]
    rfl
  rw [e3] at lc
  have bel : O.bel h.length (.lst ((nzs v).map sv)) = true := belAll_d (fun n => D.str n) _ _
  have g0 := gc_r0 (h := h) (u := []) bel
  simp only [fD] at lc ⊢
  simp only [bd, b_names_by, fnR, nF, startE]
  simp [vIx, seqOf, L2.atI, L2.ixN, itOf, wipeE, lc, g0]
/-- the names of all atoms are there -/
theorem in_names {z : Str} {ns : List Str} {h : Hh} (hz : z ∈ ns) : vIn (sv z) (.d (.tup (ns.map D.str))) h = some (.d (.bl true), h) := by
  unfold vIn inB
  simp only [seqOf, Option.bind_some, allD_map]
  rw [if_pos (.inl ⟨rfl, by simp [D.flat]⟩)]
  simp only [Option.map_some]
  have : ((ns.map D.str).any fun y => y.eqv (.str z)) = true := List.any_eq_true.mpr ⟨.str z, List.mem_map_of_mem hz, by simp [D.eqv]⟩
  rw [this]
end Lw
namespace Dq
open PySem PySem.Spec PyProof.Rows L2
theorem gc_r1 {h : Hh} {o : O} : gc h (.ok (.r h.length) (h ++ [o])) = .ok (.r h.length) (h ++ [o]) := by
  rw [gc_ok (by rw [List.take_left]), if_neg (by simp [Val.bel])]
  simp only [get_last]
  split <;> rfl
/-- a comprehension that makes truths, with more behind its list -/
theorem lc_trT {g : Tg} {ρ : Dq.Env} {t : Dq.Env → Hh → R Bool} {e : Dq.Env → Hh → R Val} {chk : Hh → Prop} (h tl : Hh) : ∀ (vs acc : List Val), (∀ a, chk (h ++ (.lst a :: tl))) → acc.length + vs.length ≤ sizeLine →
    (∀ v ∈ vs, ∀ a, ∃ ρ', g v ρ = some ρ' ∧ t ρ' (h ++ (.lst a :: tl)) = .ok true (h ++ (.lst a :: tl)) ∧ e ρ' (h ++ (.lst a :: tl)) = .ok (.d (.bl true)) (h ++ (.lst a :: tl))) →
    lcGo h.length chk g ρ t e vs (h ++ (.lst acc :: tl)) = some (h ++ (.lst (acc ++ vs.map fun _ => .d (.bl true)) :: tl))
  | [], acc, hc, hl, _ => by rw [x_lcNil (hc acc)]; simp
  | v :: vs, acc, hc, hl, hv => by
    rw [x_lcCons (hc acc)]
    obtain ⟨ρ', e1, e2, e3⟩ := hv v (List.mem_cons_self ..) acc
    rw [List.length_cons] at hl
    have z : (h ++ (O.lst acc :: tl))[h.length]? = some (.lst acc) := by simp
    have z2 : (h ++ (O.lst acc :: tl)).set h.length (.lst (acc ++ [.d (.bl true)])) = h ++ (.lst (acc ++ [.d (.bl true)]) :: tl) := by
      rw [List.set_append_right _ _ (Nat.le_refl _)]
      simp
    simp only [e1, e2, e3, z]
    rw [if_pos (by omega), z2, lc_trT h tl vs _ hc (by rw [List.length_append, List.length_singleton]; omega) fun w hw => hv w (List.mem_cons_of_mem _ hw)]
    simp
end Dq
namespace Lw
open PySem PySem.Spec Dq
/-- atoms over names -/
structure At9 where
  c : Int
  v : Str → Int
def At9.D (a : At9) : Dq.D := aD a.c a.v
noncomputable abbrev coI : Iv G := iSeq (eFn (G := G) .f_names_by (aCons (o2 vIx (eVar 3) (eC (.int 1))) aNil))
theorem lc2_names {k : Nat} {ns : List Str} {x1 x2 : Option Val} {h : Hh} : ∀ (as : List At9) (us : List Val) (tl : Hh), us.length + 5 * as.length ≤ 1000 → (∀ a ∈ as, ∀ n ∈ nzs a.v, n ∈ ns) →
    ∃ us' tl', lcGo2 h.length (fun _ => True) (gVar 3) [some (.d (.tup (ns.map D.str))), x1, x2, none, none] (qYes (G := G) (P (k + 1))) (coI (P (k + 1))) (gVar 4) [4] (qYes (G := G) (P (k + 1))) (o2 (G := G) vIn (eVar 4) (eVar 0) (P (k + 1))) ((as.map At9.D).map Val.d) (h ++ (.lst (us.map fun _ => .d (.bl true)) :: tl)) =
      some (h ++ (.lst ((us' : List Val).map fun _ => .d (.bl true)) :: tl'))
  | [], us, tl, _, _ => ⟨us, tl, by simp [lcGo2]⟩
  | a :: as, us, tl, hl, hn => by
    rw [List.length_cons] at hl
    have hsl := sz
    have ln := nzs_len a.v
    have nb := p_names_by (k := k) (c := a.c) (v := a.v) (h := h ++ (O.lst (us.map fun _ => .d (.bl true)) :: tl))
    have inner := lc_trT (g := gVar 4) (ρ := [some (.d (.tup (ns.map D.str))), x1, x2, some (.d a.D), none]) (t := qYes (G := G) (P (k + 1))) (e := o2 (G := G) vIn (eVar 4) (eVar 0) (P (k + 1))) (chk := fun h' => h'[(h ++ (O.lst (us.map fun _ => Val.d (.bl true)) :: tl)).length]? = some (.lst ((nzs a.v).map sv))) h (tl ++ [O.lst ((nzs a.v).map sv)]) ((nzs a.v).map sv) (us.map fun _ => .d (.bl true))
      (fun b => by
        rw [List.length_append, List.length_cons, List.getElem?_append_right (by omega)]
        have : h.length + (tl.length + 1) - h.length = tl.length + 1 := by omega
        rw [this]
        simp) (by rw [List.length_map, List.length_map]; omega) (fun u hu b => by
        obtain ⟨n, hn2, rfl⟩ := List.mem_map.mp hu
        have hin := fun hh => in_names (h := hh) (hn a (List.mem_cons_self ..) n hn2)
        exact ⟨[some (.d (.tup (ns.map D.str))), x1, x2, some (.d a.D), some (sv n)], rfl, rfl, by simp [hin]⟩)
    have em : (us.map fun _ => Val.d (.bl true)) ++ ((nzs a.v).map sv).map (fun _ => Val.d (.bl true)) = (us ++ (nzs a.v).map sv).map fun _ => Val.d (.bl true) := by rw [List.map_append]
    rw [em] at inner
    obtain ⟨us', tl', e⟩ := lc2_names (k := k) (ns := ns) (x1 := x1) (x2 := x2) (h := h) as (us ++ (nzs a.v).map sv) (tl ++ [O.lst ((nzs a.v).map sv)]) (by rw [List.length_append, List.length_map]; omega) (fun b hb => hn b (List.mem_cons_of_mem _ hb))
    refine ⟨us', tl', ?_⟩
    show lcGo2 _ _ _ _ _ _ _ _ _ _ (.d a.D :: (as.map At9.D).map Val.d) _ = _
    unfold lcGo2
    rw [if_pos trivial]
    have hit : coI (P (k + 1)) [some (.d (.tup (ns.map D.str))), x1, x2, some (.d a.D), none] (h ++ (O.lst (us.map fun _ => .d (.bl true)) :: tl)) = .ok ⟨(nzs a.v).map sv, fun h' => h'[(h ++ (O.lst (us.map fun _ => Val.d (.bl true)) :: tl)).length]? = some (.lst ((nzs a.v).map sv))⟩ (h ++ (O.lst (us.map fun _ => .d (.bl true)) :: (tl ++ [O.lst ((nzs a.v).map sv)]))) := by
      have e0 : (h ++ (O.lst (us.map fun _ => Val.d (.bl true)) :: tl)) ++ [O.lst ((nzs a.v).map sv)] = h ++ (O.lst (us.map fun _ => .d (.bl true)) :: (tl ++ [O.lst ((nzs a.v).map sv)])) := by simp
      have gl : ((h ++ (O.lst (us.map fun _ => Val.d (.bl true)) :: tl)) ++ [O.lst ((nzs a.v).map sv)])[(h ++ (O.lst (us.map fun _ => Val.d (.bl true)) :: tl)).length]? = some (O.lst ((nzs a.v).map sv)) := get_last
      generalize h ++ (O.lst (us.map fun _ => Val.d (.bl true)) :: tl) = HH at nb e0 gl ⊢
      rw [← e0]
      have ix : vIx (.d a.D) (.d (.int 1)) HH = some (.d (fD a.c a.v), HH) := by simp [At9.D, aD, vIx, seqOf, L2.atI, L2.ixN]
      simp [ix, psF, nb, itOf]
    simp only [x_gVar, List.set, x_qYes, hit, wipeE, inner]
    exact e
end Lw
namespace Lw
open PySem PySem.Spec Dq
theorem all_lastT {h tl : Hh} {vs : List Val} : cAll [.r h.length] (h ++ (O.lst (vs.map fun _ => .d (.bl true)) :: tl)) = some (.d (.bl true), h ++ (O.lst (vs.map fun _ => .d (.bl true)) :: tl)) := all_true (vs := vs) (by simp)
theorem p_check_over {k : Nat} {ns : List Str} {as : List At9} (hn : ∀ a ∈ as, ∀ n ∈ nzs a.v, n ∈ ns) (hl : as.length ≤ 9) {h : Hh} : P (k + 5) .f_check_over [.d (.tup (ns.map D.str)), .d (.tup (as.map At9.D))] h = .ok (.d .non) h := by
  rw [P_s]
  have hsl := sz
  have l1 := lc_tr (g := gVar 2) (ρ := [some (.d (.tup (ns.map D.str))), some (.d (.tup (as.map At9.D))), none, none, none]) (t := qYes (G := G) (P (k + 4))) (e := eFn (G := G) .f_is_atom (aCons (eVar 2) aNil) (P (k + 4))) (chk := fun _ => True) h ((as.map At9.D).map Val.d) (fun _ => trivial) (by rw [List.length_map, List.length_map]; omega) (fun u hu b => by
    obtain ⟨x, hx, rfl⟩ := List.mem_map.mp hu
    obtain ⟨a, ha, rfl⟩ := List.mem_map.mp hx
    have pa := p_is_atom (k := k) (c := a.c) (v := a.v) (h := h ++ [O.lst b])
    refine ⟨_, rfl, rfl, ?_⟩
    unfold At9.D
    simp [psF, pa])
  obtain ⟨us, tl, l2⟩ := lc2_names (k := k + 3) (ns := ns) (x1 := some (.d (.tup (as.map At9.D)))) (x2 := none) (h := h) as [] [] (by show 0 + _ ≤ _; omega) hn
  have c1 : decide ((400 : Int) < (as.length : Int)) = false := decide_eq_false (by omega)
  have l2 : lcGo2 h.length (fun _ => True) (gVar 3) [some (.d (.tup (ns.map D.str))), some (.d (.tup (as.map At9.D))), none, none, none] (qYes (G := G) (P (k + 4))) (coI (P (k + 4))) (gVar 4) [4] (qYes (G := G) (P (k + 4))) (o2 (G := G) vIn (eVar 4) (eVar 0) (P (k + 4))) ((as.map At9.D).map Val.d) (h ++ [O.lst []]) = some (h ++ (.lst ((us : List Val).map fun _ => .d (.bl true)) :: tl)) := l2
  simp only [bd, b_check_over, fnR, nF, startE]
  simp [-List.map_map, vIsi, tyN, isTy, truB, cLen, lenB, seqOf, vGt, vIntB, c1, itOf, wipeE, l1, all_last, gc_d, gcB_ok, gc_d0, gcB_ok0] at l2 ⊢
  simp [-List.map_map, l2, all_lastT, truB, gc_d, gcB_ok, gc_d0, gcB_ok0]
theorem p_bounds_by {k : Nat} {ns : List Str} (hl : ns.length ≤ 5) {h : Hh} : ∃ B, P (k + 1) .f_bounds_by [.d (.tup (ns.map D.str)), .d .non] h = .ok (.r h.length) (h ++ [.dic B]) := by
  have hsl := sz
  have z2 : (2 : Nat) ≤ sizeLine := by omega
  have em : (ns.map D.str).map Val.d = ns.map sv := by rw [List.map_map]; rfl
  have d1 := dc_run (g := gVar 2) (ρ := [some (.d (.tup (ns.map D.str))), some (.d .non), none]) (t := qYes (G := G) (P k)) (a := eVar (G := G) 2 (P k)) (e := eTup (G := G) (aCons (eC .non) (aCons (eC .non) aNil)) (P k)) (chk := fun _ => True) (fun u => match u with | .d (.str n) => .inr n | _ => .inl 0) (fun _ => .d (.tup [.non, .non])) h (ns.map sv) [] (fun _ => trivial) (by rw [List.length_map]; show 0 + _ ≤ _; omega) (fun u hu q => by
    obtain ⟨n, hn, rfl⟩ := List.mem_map.mp hu
    exact ⟨[some (.d (.tup (ns.map D.str))), some (.d .non), some (sv n)], sv n, rfl, rfl, rfl, rfl, by simp [mkTup, allD, z2]⟩)
  generalize List.foldl _ ([] : List (L2.Key × Val)) (ns.map sv) = Q at d1
  refine ⟨Q, ?_⟩
  rw [P_s]
  simp only [bd, b_bounds_by, fnR, nF, startE]
  simp [-List.map_map, em, vIsN, Val.isNon, itOf, seqOf, wipeE, d1, gc_r1]
/-! ### papers -/
def stS (l : List (Nat × Int)) : D := .tup [.str "sum", .tup (pairD l)]
def stF (i : Nat) : D := .tup [.str "false", .int (i : Int)]
theorem lk_sum : t_STEPS.lookup ("sum" : Str) = some (.int 2) := by rfl
theorem lk_false : t_STEPS.lookup ("false" : Str) = some (.int 2) := by rfl
theorem b_fs : (("false" : Str) == ("sum" : Str)) = false := by decide +kernel
theorem in_pf1 {h : Hh} : vIn (.d (.str "sum")) (.d (.tup [.str "push", .str "false"])) h = some (.d (.bl false), h) := by
  unfold vIn inB
  simp only [seqOf, Option.bind_some, allD_map]
  rw [if_pos (.inl ⟨rfl, by decide +kernel⟩)]
  have : ([D.str "push", D.str "false"].any fun y => y.eqv (.str "sum")) = false := by decide +kernel
  rw [this]; rfl
theorem in_pf2 {h : Hh} : vIn (.d (.str "false")) (.d (.tup [.str "push", .str "false"])) h = some (.d (.bl true), h) := by
  unfold vIn inB
  simp only [seqOf, Option.bind_some, allD_map]
  rw [if_pos (.inl ⟨rfl, by decide +kernel⟩)]
  have : ([D.str "push", D.str "false"].any fun y => y.eqv (.str "false")) = true := by decide +kernel
  rw [this]; rfl
theorem in_ends1 {h : Hh} : vIn (.d (.str "false")) (.d c_ENDS) h = some (.d (.bl true), h) := by
  unfold vIn inB
  simp only [seqOf, Option.bind_some, allD_map]
  rw [if_pos (.inl ⟨rfl, by decide +kernel⟩)]
  have : ([D.str "false", D.str "empty", D.str "split"].any fun y => y.eqv (.str "false")) = true := by decide +kernel
  rw [this]; rfl
theorem in_ends2 {h : Hh} : vIn (.d (.str "sum")) (.d c_ENDS) h = some (.d (.bl false), h) := by
  unfold vIn inB
  simp only [seqOf, Option.bind_some, allD_map]
  rw [if_pos (.inl ⟨rfl, by decide +kernel⟩)]
  have : ([D.str "false", D.str "empty", D.str "split"].any fun y => y.eqv (.str "sum")) = false := by decide +kernel
  rw [this]; rfl
theorem p_are_pairs {k : Nat} {a b c : Int} (ha : 1 ≤ a) (hb : 1 ≤ b) (hc : 1 ≤ c) {h : Hh} : P (k + 2) .f__are_pairs [.d (.tup (pairD [(0, a), (1, b), (2, c)]))] h = .ok (.d (.bl true)) h := by
  rw [P_s]
  have hsl := sz
  have z0 : (0 : Nat) < sizeLine := by omega
  have z1 : (1 : Nat) < sizeLine := by omega
  have z2 : (2 : Nat) < sizeLine := by omega
  have c1 : cutL [D.tup [.int 0, .int a], D.tup [.int 1, .int b], D.tup [.int 2, .int c]] (some 1) none = [D.tup [.int 1, .int b], D.tup [.int 2, .int c]] := rfl
  simp only [bd, b__are_pairs, fnR, nF, startE, pairD, List.map_cons, List.map_nil]
  simp [vIsi, tyN, isTy, truB, cLen, lenB, seqOf, vEq, eqB, scalD, D.eqv, itOf, x_lcCons, wipeE, cAll, lstOf, blsA, z0, z1, z2, gc_d, gc_d0, gcB_ok, gcB_ok0, psF, vIx, L2.atI, L2.ixN, p_is_integer, vGe, vIntB, ha, hb, hc, vSl, c1, zipB, zipV, mkTup, allD, vLt]
end Lw
namespace Lw
open PySem PySem.Spec Dq
theorem p_step_sum {k : Nat} {ns : D} {a b c : Int} (ha : 1 ≤ a) (hb : 1 ≤ b) (hc : 1 ≤ c) {h : Hh} : P (k + 3) .f__is_step [.d ns, .d (stS [(0, a), (1, b), (2, c)]), .d (.int 100)] h = .ok (.d (.bl true)) h := by
  rw [P_s]
  have pp := p_are_pairs (k := k) ha hb hc (h := h)
  unfold stS
  generalize pairD [(0, a), (1, b), (2, c)] = L at *
  simp only [bd, b__is_step, fnR, nF, startE]
  simp [vIsi, tyN, isTy, truB, cLen, lenB, seqOf, vLt, vIntB, vIx, L2.atI, L2.ixN, lk_sum, vNe, vEq, eqB, scalD, D.eqv, psF, pp, gc_d0]
theorem p_step_false {k : Nat} {ns : D} {i : Nat} {h : Hh} : P (k + 3) .f__is_step [.d ns, .d (stF i), .d (.int 100)] h = .ok (.d (.bl true)) h := by
  rw [P_s]
  have hsl := sz
  have z2 : (2 : Nat) ≤ sizeLine := by omega
  unfold stF
  simp only [bd, b__is_step, fnR, nF, startE]
  simp [vIsi, tyN, isTy, truB, cLen, lenB, seqOf, vLt, vIntB, vIx, L2.atI, L2.ixN, lk_false, vNe, vEq, eqB, scalD, D.eqv, psF, gc_d0, b_fs, mkTup, allD, z2, in_pf2, p_is_integer, vGe, gcB_ok0]
def paS (a b c : Int) : D := .tup [stS [(0, a), (1, b), (2, c)], stF 3]
def paF (i : Nat) : D := .tup [stF i]
theorem p_paperS {k : Nat} {ns : D} {a b c : Int} (ha : 1 ≤ a) (hb : 1 ≤ b) (hc : 1 ≤ c) {h : Hh} : P (k + 4) .f__is_paper [.d ns, .d (paS a b c), .d (.int 100)] h = .ok (.d (.bl true)) h := by
  rw [P_s]
  have hsl := sz
  have z0 : (0 : Nat) < sizeLine := by omega
  have z1 : (1 : Nat) < sizeLine := by omega
  have s1 := fun h => p_step_sum (k := k) (ns := ns) ha hb hc (h := h)
  have s2 := fun h => p_step_false (k := k) (ns := ns) (i := 3) (h := h)
  have ix1 : ∀ h, vIx (.d (stS [(0, a), (1, b), (2, c)])) (.d (.int 0)) h = some (.d (.str "sum"), h) := fun h => by simp [stS, vIx, seqOf, L2.atI, L2.ixN]
  have ix2 : ∀ h, vIx (.d (stF 3)) (.d (.int 0)) h = some (.d (.str "false"), h) := fun h => by simp [stF, vIx, seqOf, L2.atI, L2.ixN]
  unfold paS
  generalize stS [(0, a), (1, b), (2, c)] = S1 at *
  generalize stF 3 = S2 at *
  have ix3 : ∀ h, vIx (.d (.tup [S1, S2])) (.d (.int (-1))) h = some (.d S2, h) := fun h => by simp [vIx, seqOf, L2.atI, L2.ixN]
  have cu : cutL [S1, S2] none (some (-1)) = [S1] := rfl
  simp only [bd, b__is_paper, fnR, nF, startE]
  simp [vIsi, tyN, isTy, truB, cLen, lenB, seqOf, vEq, eqB, scalD, D.eqv, itOf, x_lcCons, wipeE, cAll, cAny, lstOf, blsA, z0, z1, gc_d, gc_d0, gcB_ok, gcB_ok0, psF, s1, s2, vNeg, ix3, ix2, ix1, in_ends1, in_ends2, vSl, cu]
theorem p_paperF {k i : Nat} {ns : D} {h : Hh} : P (k + 4) .f__is_paper [.d ns, .d (paF i), .d (.int 100)] h = .ok (.d (.bl true)) h := by
  rw [P_s]
  have hsl := sz
  have z0 : (0 : Nat) < sizeLine := by omega
  have s2 := fun h => p_step_false (k := k) (ns := ns) (i := i) (h := h)
  have ix2 : ∀ h, vIx (.d (stF i)) (.d (.int 0)) h = some (.d (.str "false"), h) := fun h => by simp [stF, vIx, seqOf, L2.atI, L2.ixN]
  unfold paF
  generalize stF i = S2 at *
  have ix3 : ∀ h, vIx (.d (.tup [S2])) (.d (.int (-1))) h = some (.d S2, h) := fun h => by simp [vIx, seqOf, L2.atI, L2.ixN]
  have cu : cutL [S2] none (some (-1)) = [] := rfl
  simp only [bd, b__is_paper, fnR, nF, startE]
  simp [vIsi, tyN, isTy, truB, cLen, lenB, seqOf, vEq, eqB, scalD, D.eqv, itOf, x_lcCons, wipeE, cAll, cAny, lstOf, blsA, z0, gc_d, gc_d0, gcB_ok, gcB_ok0, psF, s2, vNeg, ix3, ix2, in_ends1, vSl, cu]
/-! ### what is never -/
theorem never_D : aD (-1) Z0 = c_NEVER := by unfold aD; rw [fD_zero]
theorem p_best0 {k r : Nat} {c : Int} {h : Hh} : P (k + 1) .f_best_of [.d (.tup [.int c, .tup []]), .r r, .d (.bl false)] h = .ok (.d (.int c)) h := by
  rw [P_s]
  simp only [bd, b_best_of, fnR, nF, startE]
  simp [vIx, seqOf, L2.atI, L2.ixN, itOf, gc_d0]
theorem p_never {k r : Nat} {h : Hh} : P (k + 2) .f_is_never [.d c_NEVER, .r r] h = .ok (.d (.bl true)) h := by
  rw [P_s]
  have pb := p_best0 (k := k) (r := r) (c := -1) (h := h)
  simp only [bd, b_is_never, fnR, nF, startE, c_NEVER]
  simp [vIx, seqOf, L2.atI, L2.ixN, psF, pb, vNotN, Val.isNon, vLt, gc_d0]
/-! ### a refutation is read -/
/-- a reading's things: its bounds, itself, its atoms -/
abbrev rdI (n : Nat) : O := .ins "Reading" [("bounds", .r n), ("atoms", .r (n + 2))]
def RH (h : Hh) (B : List (L2.Key × Val)) (vs : List Val) (t : Hh) : Hh := h ++ (O.dic B :: rdI h.length :: O.lst vs :: t)
section
variable {h t : Hh} {B : List (L2.Key × Val)} {vs : List Val}
theorem rh0 : (RH h B vs t)[h.length]? = some (.dic B) := by unfold RH; simp
theorem rh1 : (RH h B vs t)[h.length + 1]? = some (rdI h.length) := by
  unfold RH
  rw [List.getElem?_append_right (by omega)]
  simp
theorem rh2 : (RH h B vs t)[h.length + 2]? = some (.lst vs) := by
  unfold RH
  rw [List.getElem?_append_right (by omega)]
  simp
theorem rh_set {ws : List Val} : (RH h B vs t).set (h.length + 2) (.lst ws) = RH h B ws t := by
  unfold RH
  rw [List.set_append_right _ _ (by omega)]
  simp
theorem rh_app {u : Hh} : RH h B vs t ++ u = RH h B vs (t ++ u) := by unfold RH; simp
theorem rh_ne {x : Val} {t' : Hh} : (RH h B (vs ++ [x]) (t ++ t')).take (RH h B vs t).length ≠ RH h B vs t := by
  intro e
  have e2 := congrArg (fun l : Hh => l[h.length + 2]?) e
  simp only [rh2] at e2
  rw [List.getElem?_take_of_lt (by unfold RH; simp), rh2] at e2
  simp at e2
theorem rh_take {u : Hh} : (RH h B vs (t ++ u)).take (RH h B vs t).length = RH h B vs t := by
  rw [← rh_app, List.take_left]
theorem rh_len : (RH h B vs t).take h.length = h := by unfold RH; rw [List.take_left]
end
theorem fld_b {h t : Hh} {B : List (L2.Key × Val)} {vs : List Val} : vFld G.nat "bounds" (.r (h.length + 1)) (RH h B vs t) = some (.r h.length, RH h B vs t) := by
  unfold vFld
  simp only [rh1]
  rw [if_pos (by decide +kernel)]
  rfl
theorem fld_a {h t : Hh} {B : List (L2.Key × Val)} {vs : List Val} : vFld G.nat "atoms" (.r (h.length + 1)) (RH h B vs t) = some (.r (h.length + 2), RH h B vs t) := by
  unfold vFld
  simp only [rh1]
  rw [if_pos (by decide +kernel)]
  rfl
theorem fld_b2 {h t : Hh} {B : List (L2.Key × Val)} {vs : List Val} : vFld [(("Reading" : Str), ("bounds" : Str)), (("Reading" : Str), ("atoms" : Str))] "bounds" (.r (h.length + 1)) (RH h B vs t) = some (.r h.length, RH h B vs t) := fld_b
theorem fld_a2 {h t : Hh} {B : List (L2.Key × Val)} {vs : List Val} : vFld [(("Reading" : Str), ("bounds" : Str)), (("Reading" : Str), ("atoms" : Str))] "atoms" (.r (h.length + 1)) (RH h B vs t) = some (.r (h.length + 2), RH h B vs t) := fld_a
theorem mth_r {h t : Hh} {B : List (L2.Key × Val)} {vs : List Val} : mthOf G "_is_right" (.r (h.length + 1)) (RH h B vs t) = some .f_Reading_is_right := by
  unfold mthOf
  simp only [rh1]
  rfl
theorem mth_f {h t : Hh} {B : List (L2.Key × Val)} {vs : List Val} : mthOf G "fault" (.r (h.length + 1)) (RH h B vs t) = some .f_Reading_fault := by
  unfold mthOf
  simp only [rh1]
  rfl
end Lw
namespace Lw
open PySem PySem.Spec Dq
theorem blsA_false : ∀ vs : List Val, blsA (vs.map fun _ => .d (.bl false)) = some (vs.map fun _ => false)
  | [] => rfl
  | v :: vs => by simp only [List.map_cons, blsA, blsA_false vs, Option.map_some]
theorem any_last {h : Hh} {vs : List Val} : cAny [.r h.length] (h ++ [.lst (vs.map fun _ => .d (.bl false))]) = some (.d (.bl false), h ++ [.lst (vs.map fun _ => .d (.bl false))]) := by
  unfold cAny lstOf
  simp only [get_last, Option.bind_some, blsA_false, Option.map_some]
  have : (vs.map fun _ => false).any id = false := by simp
  rw [this]
theorem p_init {k : Nat} {h : Hh} {B : List (L2.Key × Val)} {as : List D} : P (k + 1) .f_Reading_init [.r (h.length + 1), .r h.length, .d (.tup as)] (h ++ [O.dic B, O.ins "Reading" []]) = .ok (.d .non) (RH h B (as.map Val.d) []) := by
  have e1 : (h ++ [O.dic B, O.ins "Reading" []])[h.length + 1]? = some (O.ins "Reading" []) := by
    rw [List.getElem?_append_right (by omega)]
    simp
  have e2 : ∀ o, (h ++ [O.dic B, O.ins "Reading" []]).set (h.length + 1) o = h ++ [O.dic B, o] := fun o => by
    rw [List.set_append_right _ _ (by omega)]
    simp
  have e3 : (h ++ [O.dic B, O.ins "Reading" [("bounds", .r h.length)], O.lst (as.map Val.d)])[h.length + 1]? = some (O.ins "Reading" [("bounds", .r h.length)]) := by
    rw [List.getElem?_append_right (by omega)]
    simp
  have e4 : ∀ o, (h ++ [O.dic B, O.ins "Reading" [("bounds", .r h.length)], O.lst (as.map Val.d)]).set (h.length + 1) o = h ++ [O.dic B, o, O.lst (as.map Val.d)] := fun o => by
    rw [List.set_append_right _ _ (by omega)]
    simp
  have pf : putF' ("atoms" : Str) (.r (h.length + 2)) [(("bounds" : Str), Val.r h.length)] = [(("bounds" : Str), Val.r h.length), (("atoms" : Str), Val.r (h.length + 2))] := rfl
  have pf0 : putF' ("bounds" : Str) (.r h.length) [] = [(("bounds" : Str), Val.r h.length)] := rfl
  rw [P_s]
  simp only [bd, b_Reading_init, fnR, nF, startE]
  simp only [x_sSeq, x_sFldD, x_sEr, x_eVar, x_eB, x_bnd, x_aCons, x_aNil]
  simp [kFld, e1, e2, cList, seqOf, e3, e4, pf, pf0]
  show gc _ (.ok (.d .non) (RH h B (as.map Val.d) [])) = _
  refine gc_ne fun e => ?_
  have := congrArg (fun l : Hh => l[h.length + 1]?) e
  simp only [e1] at this
  rw [List.getElem?_take_of_lt (by simp), rh1] at this
  simp at this
theorem p_right_sum {k : Nat} {h t : Hh} {B : List (L2.Key × Val)} {A0 A1 A2 : At9} {a b c : Int} (hA : ∀ i, Bd 100 ((([A0, A1, A2] : List At9).getD i A0).c)) (hV : ∀ i m, Bd 100 ((([A0, A1, A2] : List At9).getD i A0).v m)) (ha : Bd 100 a) (hb : Bd 100 b) (hc : Bd 100 c) :
    ∃ t', P (k + 4) .f_Reading_is_right [.r (h.length + 1), .d (stS [(0, a), (1, b), (2, c)])] (RH h B [.d A0.D, .d A1.D, .d A2.D] t) =
      .ok (.d (.bl true)) (RH h B [.d A0.D, .d A1.D, .d A2.D, .d (aD (nC (a * A0.c + b * A1.c + c * A2.c) (fun m => a * A0.v m + b * A1.v m + c * A2.v m)) (nV (fun m => a * A0.v m + b * A1.v m + c * A2.v m)))] (t ++ t')) := by
  have hsl := sz
  have z0 : (0 : Nat) < sizeLine := by omega
  have z1 : (1 : Nat) < sizeLine := by omega
  have z2 : (2 : Nat) < sizeLine := by omega
  have z3 : (3 : Nat) < sizeLine := by omega
  let NM : List Val := [.d (.int 0), .d (.int 1), .d (.int 2)]
  refine ⟨[O.lst NM], ?_⟩
  have ps := p_sum_of (k := k) (n := h.length + 2) (vs := [.d A0.D, .d A1.D, .d A2.D]) (l := [(0, a), (1, b), (2, c)]) (ac := fun i => (([A0, A1, A2] : List At9).getD i A0).c) (av := fun i => (([A0, A1, A2] : List At9).getD i A0).v) (h := RH h B [.d A0.D, .d A1.D, .d A2.D] (t ++ [O.lst NM])) rh2 hA hV (fun p hp => by
    simp only [List.mem_cons, List.not_mem_nil, or_false] at hp
    rcases hp with rfl | rfl | rfl
    · exact ⟨ha, rfl⟩
    · exact ⟨hb, rfl⟩
    · exact ⟨hc, rfl⟩) (by show 3 ≤ 9; decide)
  have e1 : sumC (fun i => (([A0, A1, A2] : List At9).getD i A0).c) [(0, a), (1, b), (2, c)] 0 = a * A0.c + b * A1.c + c * A2.c := by
    show 0 + a * A0.c + b * A1.c + c * A2.c = _
    omega
  have e2 : sumV (fun i => (([A0, A1, A2] : List At9).getD i A0).v) [(0, a), (1, b), (2, c)] Z0 = fun m => a * A0.v m + b * A1.v m + c * A2.v m := by
    funext m
    show 0 + a * A0.v m + b * A1.v m + c * A2.v m = _
    omega
  rw [e1, e2] at ps
  generalize aD (nC (a * A0.c + b * A1.c + c * A2.c) (fun m => a * A0.v m + b * A1.v m + c * A2.v m)) (nV (fun m => a * A0.v m + b * A1.v m + c * A2.v m)) = SS at ps ⊢
  have la := lc_map (g := gVar 6) (ρ := [some (.r (h.length + 1)), some (.d (stS [(0, a), (1, b), (2, c)])), some (.d (.str "sum")), some (.r (RH h B [.d A0.D, .d A1.D, .d A2.D] t).length), none, none, none, none, none, none, none]) (t := qYes (G := G) (P (k + 3))) (e := o2 (G := G) vGe (eVar 6) (eB cLen (aCons (o1 (vFld [(("Reading" : Str), ("bounds" : Str)), (("Reading" : Str), ("atoms" : Str))] "atoms") (eVar 0)) aNil)) (P (k + 3))) (chk := fun h' => h'[(RH h B [.d A0.D, .d A1.D, .d A2.D] t).length]? = some (.lst NM)) (fun _ => .d (.bl false)) (RH h B [.d A0.D, .d A1.D, .d A2.D] (t ++ [O.lst NM])) NM
    (fun x => by rw [← rh_app, List.append_assoc, List.getElem?_append_right (Nat.le_refl _)]; simp) (by show 3 ≤ sizeLine; omega) (fun u hu x => by
      simp only [NM, List.mem_cons, List.not_mem_nil, or_false] at hu
      have q : ∃ i : Int, u = .d (.int i) ∧ i < 3 := by
        rcases hu with rfl | rfl | rfl
        · exact ⟨0, rfl, by decide⟩
        · exact ⟨1, rfl, by decide⟩
        · exact ⟨2, rfl, by decide⟩
      obtain ⟨i, rfl, hi⟩ := q
      have hd : ¬ ((3 : Int) ≤ i) := by omega
      refine ⟨[some (.r (h.length + 1)), some (.d (stS [(0, a), (1, b), (2, c)])), some (.d (.str "sum")), some (.r (RH h B [.d A0.D, .d A1.D, .d A2.D] t).length), none, none, some (.d (.int i)), none, none, none, none], rfl, rfl, ?_⟩
      rw [rh_app]
      simp [fld_a2, cLen, lenB, rh2, vGe, vIntB, hd])
  rw [P_s]
  have gn : ∀ H : Hh, gc H (.ok (.r H.length) (H ++ [O.lst NM])) = .ok (.r H.length) (H ++ [O.lst NM]) := fun H => gc_r1
  simp only [bd, b_Reading_is_right, fnR, nF, startE]
  have ixw : ∀ H, vIx (.d (stS [(0, a), (1, b), (2, c)])) (.d (.int 0)) H = some (.d (.str "sum"), H) := fun H => by simp [stS, vIx, seqOf, L2.atI, L2.ixN]
  have ixl : ∀ H, vIx (.d (stS [(0, a), (1, b), (2, c)])) (.d (.int 1)) H = some (.d (.tup (pairD [(0, a), (1, b), (2, c)])), H) := fun H => by simp [stS, vIx, seqOf, L2.atI, L2.ixN]
  generalize stS [(0, a), (1, b), (2, c)] = S1 at *
  have lnum : ∀ ρ : Dq.Env, ρ.length = 11 → lcGo (RH h B [.d A0.D, .d A1.D, .d A2.D] t).length (fun _ => True) (gVar 10) ρ (qYes (G := G) (P (k + 3))) (o2 (G := G) vIx (eVar 10) (eC (.int 0)) (P (k + 3))) ((pairD [(0, a), (1, b), (2, c)]).map Val.d) (RH h B [.d A0.D, .d A1.D, .d A2.D] t ++ [O.lst []]) = some (RH h B [.d A0.D, .d A1.D, .d A2.D] t ++ [O.lst NM]) := fun ρ hρ => by
    generalize RH h B [.d A0.D, .d A1.D, .d A2.D] t = H
    simp [pairD, x_lcCons, vIx, seqOf, L2.atI, L2.ixN, z0, z1, z2, hρ, NM]
  generalize pairD [(0, a), (1, b), (2, c)] = PL at *
  have gl := gc_d (x := .bl false) (h := RH h B [.d A0.D, .d A1.D, .d A2.D] (t ++ [O.lst NM])) (t := [O.lst (NM.map fun _ => .d (.bl false))])
  have an := any_last (h := RH h B [.d A0.D, .d A1.D, .d A2.D] (t ++ [O.lst NM])) (vs := NM)
  have hN : (RH h B [.d A0.D, .d A1.D, .d A2.D] (t ++ [O.lst NM]))[(RH h B [.d A0.D, .d A1.D, .d A2.D] t).length]? = some (.lst NM) := by rw [← rh_app]; exact get_last
  have hne := rh_ne (h := h) (B := B) (vs := [.d A0.D, .d A1.D, .d A2.D]) (x := .d SS) (t := t) (t' := [O.lst NM])
  have gfin := gc_ne (v := .d (.bl true)) hne
  have rset := rh_set (h := h) (B := B) (vs := [.d A0.D, .d A1.D, .d A2.D]) (t := t ++ [O.lst NM]) (ws := [.d A0.D, .d A1.D, .d A2.D, .d SS])
  have rg := rh2 (h := h) (B := B) (vs := [.d A0.D, .d A1.D, .d A2.D]) (t := t ++ [O.lst NM])
  have fa := fld_a2 (h := h) (B := B) (vs := [.d A0.D, .d A1.D, .d A2.D]) (t := t ++ [O.lst NM])
  have ra := rh_app (h := h) (B := B) (vs := [.d A0.D, .d A1.D, .d A2.D]) (t := t) (u := [O.lst NM])
  have z3' : 3 < sizeLine := z3
  generalize NM = NM at *
  generalize hH1 : RH h B [.d A0.D, .d A1.D, .d A2.D] (t ++ [O.lst NM]) = H1 at *
  generalize hH0 : RH h B [.d A0.D, .d A1.D, .d A2.D] t = H0 at *
  rw [show ([.d A0.D, .d A1.D, .d A2.D] : List Val) ++ [.d SS] = [.d A0.D, .d A1.D, .d A2.D, .d SS] from rfl] at gfin
  generalize hH2 : RH h B [.d A0.D, .d A1.D, .d A2.D, .d SS] (t ++ [O.lst NM]) = H2 at *
  have gn1 := gn H0
  rw [ra] at gn1
  simp [ixw, ixl, itOf, seqOf, wipeE, lnum, gn1, vEq, eqB, scalD, D.eqv, ra, hN, la, an, gl, truB, gcB_ok0, fa, isLst, rg, psF, ps, vApp, z3', rset, gfin]
end Lw
namespace Lw
open PySem PySem.Spec Dq
theorem p_right_false {k i : Nat} {h t : Hh} {B : List (L2.Key × Val)} {vs : List Val} (hv : vs[i]? = some (.d c_NEVER)) : P (k + 3) .f_Reading_is_right [.r (h.length + 1), .d (stF i)] (RH h B vs t) = .ok (.d (.bl true)) (RH h B vs t) := by
  have hsl := sz
  have z0 : (0 : Nat) < sizeLine := by omega
  have z1 : (1 : Nat) ≤ sizeLine := by omega
  have z2 : (2 : Nat) ≤ sizeLine := by omega
  have hi : i < vs.length := (List.getElem?_eq_some_iff.mp hv).1
  have hni : ¬ (vs.length ≤ i) := by omega
  have la := lc_map (g := gVar 6) (ρ := [some (.r (h.length + 1)), some (.d (stF i)), some (.d (.str "false")), some (.r (RH h B vs t).length), none, none, none, none, none, none, none]) (t := qYes (G := G) (P (k + 2))) (e := o2 (G := G) vGe (eVar 6) (eB cLen (aCons (o1 (vFld [(("Reading" : Str), ("bounds" : Str)), (("Reading" : Str), ("atoms" : Str))] "atoms") (eVar 0)) aNil)) (P (k + 2))) (chk := fun h' => h'[(RH h B vs t).length]? = some (.lst [.d (.int (i : Int))])) (fun _ => .d (.bl false)) (RH h B vs (t ++ [O.lst [.d (.int (i : Int))]])) [.d (.int (i : Int))]
    (fun x => by rw [← rh_app, List.append_assoc, List.getElem?_append_right (Nat.le_refl _)]; simp) (by show 1 ≤ sizeLine; omega) (fun u hu x => by
      rw [List.mem_singleton.mp hu]
      refine ⟨[some (.r (h.length + 1)), some (.d (stF i)), some (.d (.str "false")), some (.r (RH h B vs t).length), none, none, some (.d (.int (i : Int))), none, none, none, none], rfl, rfl, ?_⟩
      rw [rh_app]
      simp [fld_a2, cLen, lenB, rh2, vGe, vIntB, hni])
  have gl := gc_d (x := .bl false) (h := RH h B vs (t ++ [O.lst [.d (.int (i : Int))]])) (t := [O.lst ([Val.d (.int (i : Int))].map fun _ => .d (.bl false))])
  have an := any_last (h := RH h B vs (t ++ [O.lst [.d (.int (i : Int))]])) (vs := [.d (.int (i : Int))])
  have hN : (RH h B vs (t ++ [O.lst [.d (.int (i : Int))]]))[(RH h B vs t).length]? = some (.lst [.d (.int (i : Int))]) := by rw [← rh_app]; exact get_last
  have rg := rh2 (h := h) (B := B) (vs := vs) (t := t ++ [O.lst [.d (.int (i : Int))]])
  have fa := fld_a2 (h := h) (B := B) (vs := vs) (t := t ++ [O.lst [.d (.int (i : Int))]])
  have fb := fld_b2 (h := h) (B := B) (vs := vs) (t := t ++ [O.lst [.d (.int (i : Int))]])
  have ra := rh_app (h := h) (B := B) (vs := vs) (t := t) (u := [O.lst [.d (.int (i : Int))]])
  have gn1 := gc_r1 (h := RH h B vs t) (o := O.lst [.d (.int (i : Int))])
  rw [ra] at gn1
  have gfin := gc_d (x := .bl true) (h := RH h B vs t) (t := [O.lst [.d (.int (i : Int))]])
  rw [ra] at gfin
  have ixA := ix_nat rg hv
  have pn := p_never (k := k) (r := h.length) (h := RH h B vs (t ++ [O.lst [.d (.int (i : Int))]]))
  have ixw : ∀ H, vIx (.d (stF i)) (.d (.int 0)) H = some (.d (.str "false"), H) := fun H => by simp [stF, vIx, seqOf, L2.atI, L2.ixN]
  have ixl : ∀ H, vIx (.d (stF i)) (.d (.int 1)) H = some (.d (.int (i : Int)), H) := fun H => by simp [stF, vIx, seqOf, L2.atI, L2.ixN]
  rw [P_s]
  simp only [bd, b_Reading_is_right, fnR, nF, startE]
  generalize stF i = S1 at *
  generalize c_NEVER = NV at *
  generalize hH1 : RH h B vs (t ++ [O.lst [.d (.int (i : Int))]]) = H1 at *
  generalize hH0 : RH h B vs t = H0 at *
  simp at la an gl
  simp [ixw, ixl, itOf, seqOf, wipeE, vEq, eqB, scalD, D.eqv, b_fs, mkTup, allD, z1, z2, in_pf2, gn1, ra, hN, la, an, gl, truB, gcB_ok0, fa, fb, ixA, psF, pn, gfin]
theorem b_ss : (("sum" : Str) == ("split" : Str)) = false := by decide +kernel
theorem b_fsp : (("false" : Str) == ("split" : Str)) = false := by decide +kernel
theorem p_faultF {k i : Nat} {h t : Hh} {B : List (L2.Key × Val)} {vs : List Val} (hv : vs[i]? = some (.d c_NEVER)) : P (k + 4) .f_Reading_fault [.r (h.length + 1), .d (paF i), .d (.tup [])] (RH h B vs t) = .ok (.d .non) (RH h B vs t) := by
  have hsl := sz
  have z1 : (1 : Nat) ≤ sizeLine := by omega
  have pr := p_right_false (k := k) (h := h) (t := t) (B := B) hv
  have ixw : ∀ H, vIx (.d (stF i)) (.d (.int 0)) H = some (.d (.str "false"), H) := fun H => by simp [stF, vIx, seqOf, L2.atI, L2.ixN]
  have mr := mth_r (h := h) (t := t) (B := B) (vs := vs)
  rw [P_s]
  simp only [bd, b_Reading_fault, fnR, nF, startE, paF]
  generalize stF i = S1 at *
  generalize RH h B vs t = H0 at *
  simp [enumB2, enumV, mkTup, allD, x_forCons, vAdd, z1, ixw, vNe, eqB, scalD, D.eqv, b_fsp, mr, psF, pr, truB, gcB_ok0, gc_d0]
theorem p_faultS {k : Nat} {h t : Hh} {B : List (L2.Key × Val)} {A0 A1 A2 : At9} {a b c : Int} (hA : ∀ i, Bd 100 ((([A0, A1, A2] : List At9).getD i A0).c)) (hV : ∀ i m, Bd 100 ((([A0, A1, A2] : List At9).getD i A0).v m)) (ha : Bd 100 a) (hb : Bd 100 b) (hc : Bd 100 c)
    (hn : aD (nC (a * A0.c + b * A1.c + c * A2.c) (fun m => a * A0.v m + b * A1.v m + c * A2.v m)) (nV (fun m => a * A0.v m + b * A1.v m + c * A2.v m)) = c_NEVER) :
    ∃ vs' t', P (k + 5) .f_Reading_fault [.r (h.length + 1), .d (paS a b c), .d (.tup [])] (RH h B [.d A0.D, .d A1.D, .d A2.D] t) = .ok (.d .non) (RH h B vs' t') := by
  have hsl := sz
  have z1 : (1 : Nat) ≤ sizeLine := by omega
  obtain ⟨t', pr⟩ := p_right_sum (k := k) (h := h) (t := t) (B := B) hA hV ha hb hc
  rw [hn] at pr
  have pr2 := p_right_false (k := k + 1) (i := 3) (h := h) (t := t ++ t') (B := B) (vs := [.d A0.D, .d A1.D, .d A2.D, .d c_NEVER]) rfl
  have ixw1 : ∀ H, vIx (.d (stS [(0, a), (1, b), (2, c)])) (.d (.int 0)) H = some (.d (.str "sum"), H) := fun H => by simp [stS, vIx, seqOf, L2.atI, L2.ixN]
  have ixw2 : ∀ H, vIx (.d (stF 3)) (.d (.int 0)) H = some (.d (.str "false"), H) := fun H => by simp [stF, vIx, seqOf, L2.atI, L2.ixN]
  have mr := mth_r (h := h) (t := t) (B := B) (vs := [.d A0.D, .d A1.D, .d A2.D])
  have mr2 := mth_r (h := h) (t := t ++ t') (B := B) (vs := [.d A0.D, .d A1.D, .d A2.D, .d c_NEVER])
  have hne := rh_ne (h := h) (B := B) (vs := [.d A0.D, .d A1.D, .d A2.D]) (x := .d c_NEVER) (t := t) (t' := t')
  rw [show ([.d A0.D, .d A1.D, .d A2.D] : List Val) ++ [.d c_NEVER] = [.d A0.D, .d A1.D, .d A2.D, .d c_NEVER] from rfl] at hne
  have g1 := gcB_ne (b := false) hne
  have g2 := gc_ne (v := .d .non) hne
  refine ⟨[.d A0.D, .d A1.D, .d A2.D, .d c_NEVER], t ++ t', ?_⟩
  rw [P_s]
  simp only [bd, b_Reading_fault, fnR, nF, startE, paS]
  generalize c_NEVER = NV at *
  generalize stF 3 = S2 at *
  generalize stS [(0, a), (1, b), (2, c)] = S1 at *
  generalize RH h B [.d A0.D, .d A1.D, .d A2.D, .d NV] (t ++ t') = H2 at *
  generalize RH h B [.d A0.D, .d A1.D, .d A2.D] t = H0 at *
  simp [enumB2, enumV, mkTup, allD, x_forCons, vAdd, z1, ixw1, ixw2, vNe, eqB, scalD, D.eqv, b_fsp, b_ss, mr, mr2, psF, pr, pr2, truB, gcB_ok0, g1, g2]
end Lw
namespace Lw
open PySem PySem.Spec Dq
theorem gc_rh {h t : Hh} {B : List (L2.Key × Val)} {vs : List Val} {x : D} : gc h (.ok (.d x) (RH h B vs t)) = .ok (.d x) h := gc_d
theorem p_fault_by {k : Nat} {ns : List Str} {as : List D} {pa : D} (hl : ns.length ≤ 5) (hp : ∀ h, P (k + 6) .f__is_paper [.d (.tup (ns.map D.str)), .d pa, .d (.int 100)] h = .ok (.d (.bl true)) h)
    (hf : ∀ h B, ∃ vs' t', P (k + 6) .f_Reading_fault [.r (h.length + 1), .d pa, .d (.tup [])] (RH h B (as.map Val.d) []) = .ok (.d .non) (RH h B vs' t')) {h : Hh} : P (k + 7) .f_fault_by [.d (.tup (ns.map D.str)), .d .non, .d (.tup as), .d pa] h = .ok (.d .non) h := by
  have hsl := sz
  have z0 : (0 : Nat) ≤ sizeLine := by omega
  obtain ⟨B, pb⟩ := p_bounds_by (k := k + 5) (ns := ns) hl (h := h)
  have pi := p_init (k := k + 5) (h := h) (B := B) (as := as)
  obtain ⟨vs', t', pf⟩ := hf h B
  have mf := mth_f (h := h) (t := []) (B := B) (vs := as.map Val.d)
  have gg := gc_rh (h := h) (t := t') (B := B) (vs := vs') (x := .non)
  have hp := hp h
  rw [P_s]
  simp only [bd, b_fault_by, fnR, nF, startE]
  generalize ns.map D.str = NS at *
  generalize hH0 : RH h B (as.map Val.d) [] = H0 at *
  generalize RH h B vs' t' = H1 at *
  simp [psF, hp, truB, gcB_ok0, pb, pi, mf, mkTup, allD, z0, pf, gg, vIsN, Val.isNon, gc_d0]
theorem p_rf {k : Nat} {ns : List Str} {as : List At9} {pa : D} (h5 : ∀ n ∈ ns, n ∈ N5) (nd : ns.Nodup) (hl : ns.length ≤ 5) (hn : ∀ a ∈ as, ∀ n ∈ nzs a.v, n ∈ ns) (h9 : as.length ≤ 9) (hp : ∀ h, P (k + 6) .f__is_paper [.d (.tup (ns.map D.str)), .d pa, .d (.int 100)] h = .ok (.d (.bl true)) h)
    (hf : ∀ h B, ∃ vs' t', P (k + 6) .f_Reading_fault [.r (h.length + 1), .d pa, .d (.tup [])] (RH h B ((as.map At9.D).map Val.d) []) = .ok (.d .non) (RH h B vs' t')) {h : Hh} : P (k + 8) .f_refutation_fault [.d (.tup (ns.map D.str)), .d .non, .d (.tup (as.map At9.D)), .d pa] h = .ok (.d .non) h := by
  have c1 := p_check_names (k := k + 5) h5 nd hl (h := h)
  have c2 := p_check_over (k := k + 2) hn h9 (h := h)
  have c3 := p_fault_by (k := k) hl hp hf (h := h)
  rw [P_s]
  simp only [bd, b_refutation_fault, fnR, nF, startE]
  simp [psF, c1, vNotN, Val.isNon, c2, c3, gc_d0]
theorem p_rfF {k i : Nat} {ns : List Str} {as : List At9} (h5 : ∀ n ∈ ns, n ∈ N5) (nd : ns.Nodup) (hl : ns.length ≤ 5) (hn : ∀ a ∈ as, ∀ n ∈ nzs a.v, n ∈ ns) (h9 : as.length ≤ 9) (hv : ((as.map At9.D).map Val.d)[i]? = some (.d c_NEVER)) {h : Hh} : P (k + 8) .f_refutation_fault [.d (.tup (ns.map D.str)), .d .non, .d (.tup (as.map At9.D)), .d (paF i)] h = .ok (.d .non) h :=
  p_rf h5 nd hl hn h9 (fun h => p_paperF (k := k + 2)) (fun h B => ⟨_, _, p_faultF (k := k + 2) hv⟩)
theorem p_rfS {k : Nat} {ns : List Str} {A0 A1 A2 : At9} {a b c : Int} (h5 : ∀ n ∈ ns, n ∈ N5) (nd : ns.Nodup) (hl : ns.length ≤ 5) (hn : ∀ a ∈ [A0, A1, A2], ∀ n ∈ nzs a.v, n ∈ ns) (hA : ∀ i, Bd 100 ((([A0, A1, A2] : List At9).getD i A0).c)) (hV : ∀ i m, Bd 100 ((([A0, A1, A2] : List At9).getD i A0).v m)) (ha : Bd 100 a) (hb : Bd 100 b) (hc : Bd 100 c) (ha1 : 1 ≤ a) (hb1 : 1 ≤ b) (hc1 : 1 ≤ c)
    (hne : aD (nC (a * A0.c + b * A1.c + c * A2.c) (fun m => a * A0.v m + b * A1.v m + c * A2.v m)) (nV (fun m => a * A0.v m + b * A1.v m + c * A2.v m)) = c_NEVER) {h : Hh} : P (k + 8) .f_refutation_fault [.d (.tup (ns.map D.str)), .d .non, .d (.tup ([A0, A1, A2].map At9.D)), .d (paS a b c)] h = .ok (.d .non) h :=
  p_rf h5 nd hl hn (by show 3 ≤ 9; decide) (fun h => p_paperS (k := k + 2) ha1 hb1 hc1) (fun h B => p_faultS (k := k + 1) (t := []) hA hV ha hb hc hne)
end Lw
namespace Lw
open PySem PySem.Spec Dq
/-! ### the reckoning -/
theorem fD_congr {c : Int} {v w : Str → Int} (h : ∀ m ∈ N5, v m = w m) : fD c v = fD c w := by
  unfold fD
  have e : nzs v = nzs w := List.filter_congr fun m hm => by rw [h m hm]
  rw [e]
  have : pD v (nzs w) = pD w (nzs w) := by
    unfold pD
    exact List.map_congr_left fun m hm => by rw [h m (nzs_mem.mp hm).1]
  rw [this]
theorem n5_ok : ∀ z ∈ N5, PyData.strOk z = true := by unfold N5; decide +kernel
theorem fits_pD (v : Str → Int) (n : Nat) : ∀ l : List Str, (∀ z ∈ l, z ∈ N5) → fits (n + 1) (pD v l) = true
  | [], _ => rfl
  | z :: l, h => by
    have h1 := n5_ok z (h z (List.mem_cons_self ..))
    show (D.fit (n + 1) (.tup [.str z, .int (v z)]) && fits (n + 1) (pD v l)) = true
    rw [fits_pD v n l fun y hy => h y (List.mem_cons_of_mem _ hy)]
    simp [D.fit, fits, h1]
theorem fit_fD {c : Int} {v : Str → Int} (n : Nat) : (fD c v).fit (n + 3) = true := by
  unfold fD
  have := fits_pD v n (nzs v) fun z hz => (nzs_mem.mp hz).1
  simp [D.fit, fits, this]
theorem fit_aD {c : Int} {v : Str → Int} (n : Nat) : (aD c v).fit (n + 4) = true := by
  unfold aD
  have := fit_fD (c := c) (v := v) n
  have l : PyData.strOk ("least" : Str) = true := by decide +kernel
  simp [D.fit, fits, this, l]
theorem fits_at (n : Nat) : ∀ as : List At9, fits (n + 4) (as.map At9.D) = true
  | [] => rfl
  | a :: as => by
    rw [List.map_cons, fits, fits_at n as]
    unfold At9.D
    rw [fit_aD]
    rfl
/-- it is the atom that is never true -/
def nvr (a : At9) : Bool := a.D.eqv c_NEVER
theorem nvr_iff {a : At9} : nvr a = true ↔ a.D = c_NEVER := by
  unfold nvr At9.D aD fD c_NEVER
  constructor
  · intro h
    simp only [D.eqv, eqvs, Bool.and_eq_true, beq_iff_eq] at h
    obtain ⟨_, ⟨h1, h2, _⟩, _⟩ := h
    cases e : pD a.v (nzs a.v) with
    | nil => rw [h1]
    | cons x l => rw [e] at h2; simp [eqvs] at h2
  · intro h
    rw [h]
    simp [D.eqv, eqvs]
theorem gV_of {v : Str → Int} (h : nzs v = [] ) : gV v = 0 := by
  show gF v (nzs v) 0 = 0
  rw [h]; rfl
/-- a row: its number is not more, its factors are the same, times what divides -/
theorem row_c {c : Int} {v : Str → Int} (h : nvr ⟨nC c v, nV v⟩ = false) : sC v * nC c v ≤ c := by
  unfold sC nC
  by_cases hg : gV v = 0
  · rw [hg, if_pos rfl]
    by_cases hc : c ≥ 0
    · rw [if_pos hc]; simp; exact hc
    · exfalso
      have : nvr ⟨nC c v, nV v⟩ = true := by
        rw [nvr_iff]
        unfold At9.D
        simp only [nC]
        rw [if_pos hg, if_neg hc]
        have e : nzs (nV v) = [] := by
          have : nV v = Z0 := by funext n; simp [nV, hg]
          rw [this, nzs_zero]
        unfold aD fD
        rw [e]
        rfl
      rw [h] at this
      cases this
  · rw [if_neg hg]
    have e : max (gV v) 1 = gV v := by omega
    rw [e]
    exact Int.mul_ediv_self_le (by omega)
theorem row_v {v : Str → Int} {m : Str} (hm : m ∈ N5) : sC v * nV v m = v m := by
  unfold sC nV
  by_cases hg : gV v = 0
  · have h0 := gV_zero hg
    have hv : v m = 0 := by
      by_cases e : v m = 0
      · exact e
      · have := nzs_mem.mpr ⟨hm, e⟩
        rw [h0] at this
        cases this
    rw [hv, Int.zero_ediv, Int.mul_zero]
  · have e : max (gV v) 1 = gV v := by omega
    rw [e]
    exact Int.mul_ediv_cancel' (gV_dvd hm)
theorem never_of {c : Int} {v : Str → Int} (hc : c < 0) (hv : ∀ m ∈ N5, v m = 0) : aD (nC c v) (nV v) = c_NEVER := by
  have e0 : nzs v = [] := by
    unfold nzs
    rw [List.filter_eq_nil_iff]
    intro m hm
    simp [hv m hm]
  have hg := gV_of e0
  have e1 : nV v = Z0 := by funext n; simp [nV, hg]
  unfold aD
  rw [e1]
  unfold nC
  rw [if_pos hg, if_neg (by omega), fD_zero]
/-- the names' differences -/
def pm (x y : Str) : Str → Int := fun n => if n = x then 1 else if n = y then -1 else 0
theorem nz_po : nzs (pm "p" "o") = [("o" : Str), ("p" : Str)] := by unfold nzs N5 pm; decide +kernel
theorem nz_oq : nzs (pm "o" "q") = [("o" : Str), ("q" : Str)] := by unfold nzs N5 pm; decide +kernel
theorem nz_qp : nzs (pm "q" "p") = [("p" : Str), ("q" : Str)] := by unfold nzs N5 pm; decide +kernel
theorem pm_bd (x y n : Str) : Bd 100 (pm x y n) := by
  unfold Bd pm
  split
  · decide
  · split <;> decide
theorem sum_pm (m : Str) : 1 * pm "p" "o" m + 1 * pm "o" "q" m + 1 * pm "q" "p" m = 0 := by
  have d1 : ¬ (("p" : Str) = "o") := by decide +kernel
  have d2 : ¬ (("o" : Str) = "q") := by decide +kernel
  have d3 : ¬ (("q" : Str) = "p") := by decide +kernel
  unfold pm
  by_cases h1 : m = "p"
  · subst h1
    have d4 : ¬ (("p" : Str) = "q") := fun e => d3 e.symm
    simp [d1, d4]
  · by_cases h2 : m = "o"
    · subst h2
      have d5 : ¬ (("o" : Str) = "p") := fun e => d1 e.symm
      simp [d2, d5]
    · by_cases h3 : m = "q"
      · subst h3
        have d6 : ¬ (("q" : Str) = "o") := fun e => d2 e.symm
        simp [d3, d6]
      · simp [h1, h2, h3]
theorem nC_bd {b : Nat} {c : Int} {v : Str → Int} (h : Bd b c) (hb : 1 ≤ b) : Bd b (nC c v) := by
  unfold nC
  split
  · split
    · exact Nat.zero_le _
    · exact hb
  · unfold Bd at *
    exact Nat.le_trans (Int.natAbs_ediv_le_natAbs _ _) h
theorem nV_bd {b : Nat} {v : Str → Int} (h : ∀ n, Bd b (v n)) (n : Str) : Bd b (nV v n) := Nat.le_trans (Int.natAbs_ediv_le_natAbs _ _) (h n)
theorem sC_bd {b : Nat} {v : Str → Int} (h : ∀ n, Bd b (v n)) (hb : 1 ≤ b) : Bd b (sC v) := by
  unfold sC Bd
  rw [Int.natAbs_natCast]
  by_cases hg : gV v = 0
  · rw [hg]; exact hb
  · cases e : nzs v with
    | nil => exact absurd (gV_of e) hg
    | cons n l =>
      have hn : n ∈ nzs v := by rw [e]; exact List.mem_cons_self ..
      obtain ⟨_, h0⟩ := nzs_mem.mp hn
      have hd := (gF_dvd v (nzs v) 0).2 n hn
      have hle : gV v ≤ (v n).natAbs := Nat.le_of_dvd (by omega) hd
      have := h n
      unfold Bd at this
      omega
theorem sC_pos (v : Str → Int) : 1 ≤ sC v := by unfold sC; omega
end Lw
namespace Lw
open PySem PySem.Spec Dq
theorem ix_first {x y : D} {i : Nat} {H : Hh} : vIx (.d (.tup [x, y])) (.d (.int 0)) H = some (.d x, H) := by simp [vIx, seqOf, L2.atI, L2.ixN]
theorem p_are_sums {k : Nat} {h : Hh} : P (k + 1) .f_are_sums [.d (paS 1 1 1)] h = .ok (.d (.bl true)) h := by
  have hsl := sz
  have z0 : (0 : Nat) < sizeLine := by omega
  have ix1 : ∀ h, vIx (.d (stS [(0, 1), (1, 1), (2, 1)])) (.d (.int 0)) h = some (.d (.str "sum"), h) := fun h => by simp [stS, vIx, seqOf, L2.atI, L2.ixN]
  have ix2 : ∀ h, vIx (.d (stF 3)) (.d (.int 0)) h = some (.d (.str "false"), h) := fun h => by simp [stF, vIx, seqOf, L2.atI, L2.ixN]
  rw [P_s]
  unfold paS
  generalize stS [(0, 1), (1, 1), (2, 1)] = S1 at *
  generalize stF 3 = S2 at *
  have ix3 : ∀ h, vIx (.d (.tup [S1, S2])) (.d (.int (-1))) h = some (.d S2, h) := fun h => by simp [vIx, seqOf, L2.atI, L2.ixN]
  have cu : cutL [S1, S2] none (some (-1)) = [S1] := rfl
  simp only [bd, b_are_sums, fnR, nF, startE]
  simp [vNeg, ix3, ix2, ix1, vEq, eqB, scalD, D.eqv, vSl, cu, itOf, seqOf, x_lcCons, wipeE, z0, cAll, lstOf, blsA, gc_d, gc_d0]
/-! ### the paper that is made -/
def L3 (h : Hh) (a b c : List Val) : Hh := h ++ [O.lst a, O.lst b, O.lst c]
section
variable {h : Hh} {a b c x : List Val}
theorem l30 : (L3 h a b c)[h.length]? = some (.lst a) := by unfold L3; simp
theorem l31 : (L3 h a b c)[h.length + 1]? = some (.lst b) := by
  unfold L3
  rw [List.getElem?_append_right (by omega)]
  simp
theorem l32 : (L3 h a b c)[h.length + 2]? = some (.lst c) := by
  unfold L3
  rw [List.getElem?_append_right (by omega)]
  simp
theorem l3s0 : (L3 h a b c).set h.length (.lst x) = L3 h x b c := by
  unfold L3
  rw [List.set_append_right _ _ (Nat.le_refl _)]
  simp
theorem l3s1 : (L3 h a b c).set (h.length + 1) (.lst x) = L3 h a x c := by
  unfold L3
  rw [List.set_append_right _ _ (by omega)]
  simp
theorem l3s2 : (L3 h a b c).set (h.length + 2) (.lst x) = L3 h a b x := by
  unfold L3
  rw [List.set_append_right _ _ (by omega)]
  simp
theorem l3t {u v w : Val} (hu : ¬ ∃ z, u = .d z) : True := trivial
theorem l3gc : gc h (.ok (.t [.r h.length, .r (h.length + 1), .r (h.length + 2)]) (L3 h a b c)) = .ok (.t [.r h.length, .r (h.length + 1), .r (h.length + 2)]) (L3 h a b c) := by
  unfold L3
  rw [gc_ok (by rw [List.take_left]), if_neg (by simp [Val.bel, belAll])]
theorem l3gd {y : D} : gc h (.ok (.d y) (L3 h a b c)) = .ok (.d y) h := gc_d
theorem l3get {r : Nat} {o : O} (hr : h[r]? = some o) : (L3 h a b c)[r]? = some o := by
  unfold L3
  rw [List.getElem?_append_left (List.getElem?_eq_some_iff.mp hr).1]
  exact hr
end
theorem in_never {as : List At9} {n : Nat} {h : Hh} (hn : h[n]? = some (.lst ((as.map At9.D).map Val.d))) : vIn (.d c_NEVER) (.r n) h = some (.d (.bl (as.any nvr)), h) := by
  unfold vIn inB
  have f := fits_at 59 as
  have f0 : D.fit 64 c_NEVER = true := by decide +kernel
  have e : ((as.map At9.D).any fun y => y.eqv c_NEVER) = as.any nvr := by rw [List.any_map]; rfl
  simp only [seqOf, hn, Option.bind_some, allD_map]
  rw [if_pos (.inr ⟨f0, f⟩), e]
  rfl
/-- the place of the first that is never true -/
def fst3 (R0 R1 R2 : At9) : Nat := if nvr R0 then 0 else if nvr R1 then 1 else 2
theorem idx_never {as : List At9} {n j : Nat} {h : Hh} (hn : h[n]? = some (.lst ((as.map At9.D).map Val.d))) (hj : firstAt c_NEVER (as.map At9.D) = some j) : vIndex (.r n) [.d c_NEVER] h = some (.d (.int (j : Int)), h) := by
  have f := fits_at 59 as
  have f0 : D.fit 64 c_NEVER = true := by decide +kernel
  unfold vIndex
  simp only [hn, Option.bind_some, allD_map]
  rw [if_pos ⟨f0, f⟩, hj]
  rfl
theorem first3 {R0 R1 R2 : At9} (h : ([R0, R1, R2].any nvr) = true) : firstAt c_NEVER ([R0, R1, R2].map At9.D) = some (fst3 R0 R1 R2) := by
  unfold fst3
  simp only [List.map_cons, List.map_nil, firstAt]
  simp only [List.any_cons, List.any_nil, Bool.or_false] at h
  show (if nvr R0 = true then some 0 else (if nvr R1 = true then some 0 else (if nvr R2 = true then some 0 else (none : Option Nat).map (· + 1)).map (· + 1)).map (· + 1)) = _
  by_cases h0 : nvr R0 = true
  · rw [if_pos h0, if_pos h0]
  · rw [if_neg h0, if_neg h0]
    by_cases h1 : nvr R1 = true
    · rw [if_pos h1, if_pos h1]; rfl
    · rw [if_neg h1, if_neg h1]
      have h2 : nvr R2 = true := by simpa [h0, h1] using h
      rw [if_pos h2]; rfl
theorem p_called1 {k r : Nat} {h : Hh} {A0 A1 A2 R0 R1 R2 : At9} (hN : ([R0, R1, R2].any nvr) = true) : P (k + 1) .f__called [.d (.tup ([A0, A1, A2].map At9.D)), .d (paS 1 1 1), .r r, .d (.tup ([R0, R1, R2].map At9.D))] h = .ok (.d (paF (fst3 R0 R1 R2))) h := by
  have hsl := sz
  have z0 : (0 : Nat) ≤ sizeLine := by omega
  have z1 : (1 : Nat) ≤ sizeLine := by omega
  have z2 : (2 : Nat) ≤ sizeLine := by omega
  have z3 : (3 : Nat) ≤ sizeLine := by omega
  have ej := first3 hN
  have g3 := l3gc (h := h) (a := ([A0, A1, A2].map At9.D).map Val.d) (b := ([R0, R1, R2].map At9.D).map Val.d) (c := [])
  have i1 := in_never (as := [R0, R1, R2]) (l31 (h := h) (a := ([A0, A1, A2].map At9.D).map Val.d) (b := ([R0, R1, R2].map At9.D).map Val.d) (c := []))
  have j1 := idx_never (as := [R0, R1, R2]) (l31 (h := h) (a := ([A0, A1, A2].map At9.D).map Val.d) (b := ([R0, R1, R2].map At9.D).map Val.d) (c := [])) ej
  rw [hN] at i1
  have s2 := l32 (h := h) (a := ([A0, A1, A2].map At9.D).map Val.d) (b := ([R0, R1, R2].map At9.D).map Val.d) (c := [])
  have s1 := l31 (h := h) (a := ([A0, A1, A2].map At9.D).map Val.d) (b := ([R0, R1, R2].map At9.D).map Val.d) (c := [])
  have gd := fun y => l3gd (h := h) (a := ([A0, A1, A2].map At9.D).map Val.d) (b := ([R0, R1, R2].map At9.D).map Val.d) (c := []) (y := y)
  have eL : h ++ [O.lst (([A0, A1, A2].map At9.D).map Val.d), O.lst (([R0, R1, R2].map At9.D).map Val.d), O.lst []] = L3 h (([A0, A1, A2].map At9.D).map Val.d) (([R0, R1, R2].map At9.D).map Val.d) [] := rfl
  rw [P_s]
  simp only [bd, b__called, fnR, nF, startE, paS, paF, stF]
  generalize fst3 R0 R1 R2 = J at *
  generalize ([A0, A1, A2].map At9.D) = AL at *
  generalize ([R0, R1, R2].map At9.D) = RL at *
  generalize stS [(0, 1), (1, 1), (2, 1)] = S1 at *
  generalize c_NEVER = NV at *
  generalize hH : L3 h (AL.map Val.d) (RL.map Val.d) [] = H at *
  have cu : ∀ S2 : D, cutL [S1, S2] none (some (-1)) = [S1] := fun S2 => rfl
  simp [cList, seqOf, eL, mkTup, allD, z0, z1, z2, z3, g3, tupOf, vNeg, vSl, cu, itOf, x_forCons, i1, s2, s1, j1, isLst, cTuple, lstOf, vAdd, gd, gc_d0]
end Lw
namespace Lw
open PySem PySem.Spec Dq
def N9 : At9 := ⟨-1, Z0⟩
theorem N9_D : N9.D = c_NEVER := never_D
theorem nvr_N9 : nvr N9 = true := nvr_iff.mpr N9_D
theorem first4 {R0 R1 R2 : At9} (h : ([R0, R1, R2].any nvr) = false) : firstAt c_NEVER ([R0, R1, R2, N9].map At9.D) = some 3 := by
  simp only [List.any_cons, List.any_nil, Bool.or_false, Bool.or_eq_false_iff] at h
  obtain ⟨h0, h1, h2⟩ := h
  have h3 := nvr_N9
  unfold nvr at h0 h1 h2 h3
  simp [firstAt, h0, h1, h2, h3]
/-- pairs with their scales -/
def sl3 (s0 s1 s2 : Int) : Int → Int := fun i => if i = 0 then s0 else if i = 1 then s1 else s2
def prF (s0 s1 s2 : Int) : Val → Val := fun u => match u with | .d (.tup [.int i, _]) => .d (.tup [.int i, .int (sl3 s0 s1 s2 i)]) | u => u
noncomputable abbrev clE : Ev G := eGc (eTup (aCons (eVar 9) (aCons (o2 vMul (eVar 10) (eFn (G := G) .f__scale (aCons (o2 vIx (eVar 4) (eVar 9)) (aCons (eVar 2) aNil)))) aNil)))
theorem pairs_lc {k r : Nat} {h : Hh} {A0 A1 A2 : At9} {kvs : List (L2.Key × Val)} {RL SL : List Val} {s0 s1 s2 : Int} (b0 : Bd 100 s0) (b1 : Bd 100 s1) (b2 : Bd 100 s2) (hr : h[r]? = some (.dic kvs))
    (hs0 : ∀ H : Hh, H[r]? = some (.dic kvs) → P (k + 3) .f__scale [.d A0.D, .r r] H = .ok (.d (.int s0)) H) (hs1 : ∀ H : Hh, H[r]? = some (.dic kvs) → P (k + 3) .f__scale [.d A1.D, .r r] H = .ok (.d (.int s1)) H) (hs2 : ∀ H : Hh, H[r]? = some (.dic kvs) → P (k + 3) .f__scale [.d A2.D, .r r] H = .ok (.d (.int s2)) H)
    (x0 x1 x3 x5 x6 x7 x8 : Option Val) : lcGo (L3 h (([A0, A1, A2].map At9.D).map Val.d) RL SL).length (fun _ => True) (gTupG 2 (gConsG (gVar 9) (gConsG (gVar 10) gNilG))) [x0, x1, some (.r r), x3, some (.r h.length), x5, x6, x7, x8, none, none] (qYes (G := G) (P (k + 3))) (clE (P (k + 3))) ((pairD [(0, 1), (1, 1), (2, 1)]).map Val.d) (L3 h (([A0, A1, A2].map At9.D).map Val.d) RL SL ++ [O.lst []]) =
    some (L3 h (([A0, A1, A2].map At9.D).map Val.d) RL SL ++ [O.lst ((pairD [(0, s0), (1, s1), (2, s2)]).map Val.d)]) := by
  have hsl := sz
  have z2 : (2 : Nat) ≤ sizeLine := by omega
  have em : ((pairD [(0, 1), (1, 1), (2, 1)]).map Val.d).map (prF s0 s1 s2) = (pairD [(0, s0), (1, s1), (2, s2)]).map Val.d := rfl
  rw [← em]
  refine lc_map (prF s0 s1 s2) _ _ (fun _ => trivial) (by show 3 ≤ sizeLine; omega) fun u hu a => ?_
  have hd : (L3 h (([A0, A1, A2].map At9.D).map Val.d) RL SL ++ [O.lst a])[r]? = some (.dic kvs) := by
    have q := l3get (a := ([A0, A1, A2].map At9.D).map Val.d) (b := RL) (c := SL) hr
    rw [List.getElem?_append_left (List.getElem?_eq_some_iff.mp q).1]
    exact q
  have h0 : (L3 h (([A0, A1, A2].map At9.D).map Val.d) RL SL ++ [O.lst a])[h.length]? = some (.lst [.d A0.D, .d A1.D, .d A2.D]) := by
    have q := l30 (h := h) (a := ([A0, A1, A2].map At9.D).map Val.d) (b := RL) (c := SL)
    rw [List.getElem?_append_left (List.getElem?_eq_some_iff.mp q).1]
    exact q
  generalize L3 h (([A0, A1, A2].map At9.D).map Val.d) RL SL ++ [O.lst a] = HH at *
  have one := fun (s : Int) (bs : Bd 100 s) => mul_ok (h := HH) sm1 (bs.sm (by omega))
  have hu : u = .d (.tup [.int 0, .int 1]) ∨ u = .d (.tup [.int 1, .int 1]) ∨ u = .d (.tup [.int 2, .int 1]) := by
    simpa [pairD] using hu
  have p0 := hs0 HH hd
  have p1 := hs1 HH hd
  have p2 := hs2 HH hd
  have i0 : vIx (.r h.length) (.d (.int 0)) HH = some (.d A0.D, HH) := by simp [vIx, h0, L2.atI, L2.ixN]
  have i1 : vIx (.r h.length) (.d (.int 1)) HH = some (.d A1.D, HH) := by simp [vIx, h0, L2.atI, L2.ixN]
  have i2 : vIx (.r h.length) (.d (.int 2)) HH = some (.d A2.D, HH) := by simp [vIx, h0, L2.atI, L2.ixN]
  rcases hu with rfl | rfl | rfl
  · refine ⟨[x0, x1, some (.r r), x3, some (.r h.length), x5, x6, x7, x8, some (.d (.int 0)), some (.d (.int 1))], by simp, rfl, ?_⟩
    simp [i0, psF, p0, one s0 b0, mkTup, allD, z2, gc_d0, prF, sl3]
  · refine ⟨[x0, x1, some (.r r), x3, some (.r h.length), x5, x6, x7, x8, some (.d (.int 1)), some (.d (.int 1))], by simp, rfl, ?_⟩
    simp [i1, psF, p1, one s1 b1, mkTup, allD, z2, gc_d0, prF, sl3]
  · refine ⟨[x0, x1, some (.r r), x3, some (.r h.length), x5, x6, x7, x8, some (.d (.int 2)), some (.d (.int 1))], by simp, rfl, ?_⟩
    simp [i2, psF, p2, one s2 b2, mkTup, allD, z2, gc_d0, prF, sl3]
theorem p_called2 {k r : Nat} {h : Hh} {A0 A1 A2 R0 R1 R2 : At9} {kvs : List (L2.Key × Val)} {s0 s1 s2 : Int} (hN : ([R0, R1, R2].any nvr) = false) (b0 : Bd 100 s0) (b1 : Bd 100 s1) (b2 : Bd 100 s2) (hr : h[r]? = some (.dic kvs))
    (hA : ∀ i, Bd 100 ((([A0, A1, A2] : List At9).getD i A0).c)) (hAV : ∀ i m, Bd 100 ((([A0, A1, A2] : List At9).getD i A0).v m)) (hR : ∀ i, Bd 100 ((([R0, R1, R2] : List At9).getD i R0).c)) (hRV : ∀ i m, Bd 100 ((([R0, R1, R2] : List At9).getD i R0).v m))
    (hs0 : ∀ H : Hh, H[r]? = some (.dic kvs) → P (k + 3) .f__scale [.d A0.D, .r r] H = .ok (.d (.int s0)) H) (hs1 : ∀ H : Hh, H[r]? = some (.dic kvs) → P (k + 3) .f__scale [.d A1.D, .r r] H = .ok (.d (.int s1)) H) (hs2 : ∀ H : Hh, H[r]? = some (.dic kvs) → P (k + 3) .f__scale [.d A2.D, .r r] H = .ok (.d (.int s2)) H)
    (hn : aD (nC (s0 * R0.c + s1 * R1.c + s2 * R2.c) (fun m => s0 * R0.v m + s1 * R1.v m + s2 * R2.v m)) (nV (fun m => s0 * R0.v m + s1 * R1.v m + s2 * R2.v m)) = c_NEVER) :
    P (k + 4) .f__called [.d (.tup ([A0, A1, A2].map At9.D)), .d (paS 1 1 1), .r r, .d (.tup ([R0, R1, R2].map At9.D))] h = .ok (.d (paS s0 s1 s2)) h := by
  have hsl := sz
  have z0 : (0 : Nat) ≤ sizeLine := by omega
  have z0' : (0 : Nat) < sizeLine := by omega
  have z1 : (1 : Nat) ≤ sizeLine := by omega
  have z2 : (2 : Nat) ≤ sizeLine := by omega
  have z3 : (3 : Nat) ≤ sizeLine := by omega
  have z3' : (3 : Nat) < sizeLine := by omega
  -- the sums
  have sumL : ∀ (B0 B1 B2 : At9) (a b c : Int) (n : Nat) (HH : Hh), (∀ i, Bd 100 ((([B0, B1, B2] : List At9).getD i B0).c)) → (∀ i m, Bd 100 ((([B0, B1, B2] : List At9).getD i B0).v m)) → Bd 100 a → Bd 100 b → Bd 100 c → HH[n]? = some (.lst (([B0, B1, B2].map At9.D).map Val.d)) →
      P (k + 3) .f_sum_of [.r n, .d (.tup (pairD [(0, a), (1, b), (2, c)]))] HH = .ok (.d (aD (nC (a * B0.c + b * B1.c + c * B2.c) (fun m => a * B0.v m + b * B1.v m + c * B2.v m)) (nV (fun m => a * B0.v m + b * B1.v m + c * B2.v m)))) HH := fun B0 B1 B2 a b c n HH hB hBV ba bb bc hget => by
    have ps := p_sum_of (k := k) (n := n) (vs := ([B0, B1, B2].map At9.D).map Val.d) (l := [(0, a), (1, b), (2, c)]) (ac := fun i => (([B0, B1, B2] : List At9).getD i B0).c) (av := fun i => (([B0, B1, B2] : List At9).getD i B0).v) (h := HH) hget hB hBV (fun p hp => by
      simp only [List.mem_cons, List.not_mem_nil, or_false] at hp
      rcases hp with rfl | rfl | rfl
      · exact ⟨ba, rfl⟩
      · exact ⟨bb, rfl⟩
      · exact ⟨bc, rfl⟩) (by show 3 ≤ 9; decide)
    have e1 : sumC (fun i => (([B0, B1, B2] : List At9).getD i B0).c) [(0, a), (1, b), (2, c)] 0 = a * B0.c + b * B1.c + c * B2.c := by
      show 0 + a * B0.c + b * B1.c + c * B2.c = _
      omega
    have e2 : sumV (fun i => (([B0, B1, B2] : List At9).getD i B0).v) [(0, a), (1, b), (2, c)] Z0 = fun m => a * B0.v m + b * B1.v m + c * B2.v m := by
      funext m
      show 0 + a * B0.v m + b * B1.v m + c * B2.v m = _
      omega
    rw [e1, e2] at ps
    exact ps
  have o1 : Bd 100 1 := by unfold Bd; decide
  have q1 := sumL A0 A1 A2 1 1 1 h.length (L3 h (([A0, A1, A2].map At9.D).map Val.d) (([R0, R1, R2].map At9.D).map Val.d) []) hA hAV o1 o1 o1 l30
  generalize aD (nC (1 * A0.c + 1 * A1.c + 1 * A2.c) (fun m => 1 * A0.v m + 1 * A1.v m + 1 * A2.v m)) (nV (fun m => 1 * A0.v m + 1 * A1.v m + 1 * A2.v m)) = X at q1
  have q2 := sumL R0 R1 R2 s0 s1 s2 (h.length + 1) (L3 h (([A0, A1, A2].map At9.D).map Val.d ++ [.d X]) (([R0, R1, R2].map At9.D).map Val.d) []) hR hRV b0 b1 b2 l31
  rw [hn] at q2
  have lc := fun x0 x1 x3 x5 x6 x7 x8 => pairs_lc (k := k) (h := h) (A0 := A0) (A1 := A1) (A2 := A2) (RL := ([R0, R1, R2].map At9.D).map Val.d) (SL := []) b0 b1 b2 hr hs0 hs1 hs2 x0 x1 x3 x5 x6 x7 x8
  have g3 := l3gc (h := h) (a := ([A0, A1, A2].map At9.D).map Val.d) (b := ([R0, R1, R2].map At9.D).map Val.d) (c := [])
  have i1 := in_never (as := [R0, R1, R2]) (l31 (h := h) (a := ([A0, A1, A2].map At9.D).map Val.d) (b := ([R0, R1, R2].map At9.D).map Val.d) (c := []))
  rw [hN] at i1
  have eR : ([R0, R1, R2].map At9.D).map Val.d ++ [.d c_NEVER] = ([R0, R1, R2, N9].map At9.D).map Val.d := by
    rw [← N9_D]; rfl
  have j1 := idx_never (as := [R0, R1, R2, N9]) (l31 (h := h) (a := ([A0, A1, A2].map At9.D).map Val.d ++ [.d X]) (b := ([R0, R1, R2, N9].map At9.D).map Val.d) (c := [.d (.tup [c_SUM, .tup (pairD [(0, s0), (1, s1), (2, s2)])])])) (first4 hN)
  rw [← eR] at j1
  have tp : ∀ HH : Hh, cTuple [.r HH.length] (HH ++ [O.lst ((pairD [(0, s0), (1, s1), (2, s2)]).map Val.d)]) = some (.d (.tup (pairD [(0, s0), (1, s1), (2, s2)])), HH ++ [O.lst ((pairD [(0, s0), (1, s1), (2, s2)]).map Val.d)]) := fun HH => by
    simp only [cTuple, tupOf, lstOf, get_last, Option.map_some, mkTup_map]
  have eL : h ++ [O.lst (([A0, A1, A2].map At9.D).map Val.d), O.lst (([R0, R1, R2].map At9.D).map Val.d), O.lst []] = L3 h (([A0, A1, A2].map At9.D).map Val.d) (([R0, R1, R2].map At9.D).map Val.d) [] := rfl
  have lA : (([A0, A1, A2].map At9.D).map Val.d).length = 3 := rfl
  have lR : (([R0, R1, R2].map At9.D).map Val.d).length = 3 := rfl
  rw [P_s]
  simp only [bd, b__called, fnR, nF, startE, paS]
  generalize ([A0, A1, A2].map At9.D) = AL at *
  generalize ([R0, R1, R2].map At9.D) = RL at *
  have ixl : ∀ H, vIx (.d (stS [(0, 1), (1, 1), (2, 1)])) (.d (.int 1)) H = some (.d (.tup (pairD [(0, 1), (1, 1), (2, 1)])), H) := fun H => by simp [stS, vIx, seqOf, L2.atI, L2.ixN]
  have eS : stS [(0, s0), (1, s1), (2, s2)] = .tup [c_SUM, .tup (pairD [(0, s0), (1, s1), (2, s2)])] := rfl
  rw [eS]
  generalize stS [(0, 1), (1, 1), (2, 1)] = S1 at *
  generalize pairD [(0, 1), (1, 1), (2, 1)] = PA at *
  generalize pairD [(0, s0), (1, s1), (2, s2)] = PB at *
  have cu : ∀ S2 : D, cutL [S1, S2] none (some (-1)) = [S1] := fun S2 => rfl
  have gp := gc_d (x := .tup PB) (h := L3 h (AL.map Val.d) (RL.map Val.d) []) (t := [O.lst (PB.map Val.d)])
  have gfin := fun y => l3gd (h := h) (a := AL.map Val.d ++ [.d X]) (b := RL.map Val.d ++ [.d c_NEVER]) (c := [.d (.tup [c_SUM, .tup PB])]) (y := y)
  unfold stF
  generalize c_NEVER = NV at *
  simp [cList, seqOf, eL, mkTup, allD, z0, z0', z1, z2, z3, z3', g3, tupOf, vNeg, vSl, cu, itOf, x_forCons, i1, ixl, wipeE, lc, tp, gp, psF, isLst, l30, l31, l32, vApp, lA, lR, q1, q2, l3s0, l3s1, l3s2, j1, cTuple, lstOf, vAdd, gfin, gc_d0, allD_map]
end Lw
namespace Lw
open PySem PySem.Spec Dq
def At9.F (a : At9) : Dq.D := fD a.c a.v
/-! ### the three atoms, their rows -/
def rC (x y : Str) (c : Int) (sel : Str → At9) : Int := putC (pm x y) (fun n => (sel n).c) (nzs (pm x y)) c
def rV (x y : Str) (sel : Str → At9) : Str → Int := putV (pm x y) (fun n => (sel n).v) (nzs (pm x y)) Z0
def row (x y : Str) (c : Int) (sel : Str → At9) : At9 := ⟨nC (rC x y c sel) (rV x y sel), nV (rV x y sel)⟩
def atm (x y : Str) (c : Int) : At9 := ⟨c, pm x y⟩
theorem ne_po : ¬ (("p" : Str) = "o") := by decide +kernel
theorem ne_op : ¬ (("o" : Str) = "p") := by decide +kernel
theorem ne_oq : ¬ (("o" : Str) = "q") := by decide +kernel
theorem ne_qo : ¬ (("q" : Str) = "o") := by decide +kernel
theorem ne_qp : ¬ (("q" : Str) = "p") := by decide +kernel
theorem ne_pq : ¬ (("p" : Str) = "q") := by decide +kernel
theorem rC_po (c : Int) (sel : Str → At9) : rC "p" "o" c sel = c - (sel "o").c + (sel "p").c := by
  unfold rC
  rw [nz_po]
  simp [putC, pm, ne_op]
  omega
theorem rC_oq (c : Int) (sel : Str → At9) : rC "o" "q" c sel = c + (sel "o").c - (sel "q").c := by
  unfold rC
  rw [nz_oq]
  simp [putC, pm, ne_qo]
  omega
theorem rC_qp (c : Int) (sel : Str → At9) : rC "q" "p" c sel = c - (sel "p").c + (sel "q").c := by
  unfold rC
  rw [nz_qp]
  simp [putC, pm, ne_pq]
  omega
theorem rV_po (sel : Str → At9) (m : Str) : rV "p" "o" sel m = (sel "p").v m - (sel "o").v m := by
  unfold rV
  rw [nz_po]
  simp [putV, pm, ne_op]
  omega
theorem rV_oq (sel : Str → At9) (m : Str) : rV "o" "q" sel m = (sel "o").v m - (sel "q").v m := by
  unfold rV
  rw [nz_oq]
  simp [putV, pm, ne_qo]
  omega
theorem rV_qp (sel : Str → At9) (m : Str) : rV "q" "p" sel m = (sel "q").v m - (sel "p").v m := by
  unfold rV
  rw [nz_qp]
  simp [putV, pm, ne_pq]
  omega
/-- forms that are small -/
def Small (sel : Str → At9) : Prop := ∀ n, Bd 30 (sel n).c ∧ ∀ m, Bd 30 ((sel n).v m)
section
variable {sel : Str → At9} (hs : Small sel)
include hs
theorem rCs {c : Int} (hc : Bd 30 c) : Bd 90 (rC "p" "o" c sel) ∧ Bd 90 (rC "o" "q" c sel) ∧ Bd 90 (rC "q" "p" c sel) := by
  have a := (hs "o").1
  have b := (hs "p").1
  have d := (hs "q").1
  rw [rC_po, rC_oq, rC_qp]
  unfold Bd at *
  omega
theorem rVs (m : Str) : Bd 60 (rV "p" "o" sel m) ∧ Bd 60 (rV "o" "q" sel m) ∧ Bd 60 (rV "q" "p" sel m) := by
  have a := (hs "o").2 m
  have b := (hs "p").2 m
  have d := (hs "q").2 m
  rw [rV_po, rV_oq, rV_qp]
  unfold Bd at *
  omega
end
/-- the sum of the rows, each times what divides, is never true -/
theorem sum_never {low : Int} (hl : 0 < low) {sel : Str → At9} (hN : ([row "p" "o" (-low) sel, row "o" "q" 0 sel, row "q" "p" 0 sel].any nvr) = false) :
    aD (nC (sC (rV "p" "o" sel) * (row "p" "o" (-low) sel).c + sC (rV "o" "q" sel) * (row "o" "q" 0 sel).c + sC (rV "q" "p" sel) * (row "q" "p" 0 sel).c) (fun m => sC (rV "p" "o" sel) * (row "p" "o" (-low) sel).v m + sC (rV "o" "q" sel) * (row "o" "q" 0 sel).v m + sC (rV "q" "p" sel) * (row "q" "p" 0 sel).v m))
      (nV (fun m => sC (rV "p" "o" sel) * (row "p" "o" (-low) sel).v m + sC (rV "o" "q" sel) * (row "o" "q" 0 sel).v m + sC (rV "q" "p" sel) * (row "q" "p" 0 sel).v m)) = c_NEVER := by
  simp only [List.any_cons, List.any_nil, Bool.or_false, Bool.or_eq_false_iff] at hN
  obtain ⟨h0, h1, h2⟩ := hN
  refine never_of ?_ fun m hm => ?_
  · have a := row_c h0
    have b := row_c h1
    have c := row_c h2
    show sC (rV "p" "o" sel) * nC (rC "p" "o" (-low) sel) (rV "p" "o" sel) + sC (rV "o" "q" sel) * nC (rC "o" "q" 0 sel) (rV "o" "q" sel) + sC (rV "q" "p" sel) * nC (rC "q" "p" 0 sel) (rV "q" "p" sel) < 0
    rw [rC_po] at a ⊢
    rw [rC_oq] at b ⊢
    rw [rC_qp] at c ⊢
    omega
  · show sC (rV "p" "o" sel) * nV (rV "p" "o" sel) m + sC (rV "o" "q" sel) * nV (rV "o" "q" sel) m + sC (rV "q" "p" sel) * nV (rV "q" "p" sel) m = 0
    rw [row_v hm, row_v hm, row_v hm, rV_po, rV_oq, rV_qp]
    omega
/-- the question's own atoms: their sum is never true -/
theorem own_never {low : Int} (hl : 0 < low) : aD (nC (1 * (atm "p" "o" (-low)).c + 1 * (atm "o" "q" 0).c + 1 * (atm "q" "p" 0).c) (fun m => 1 * (atm "p" "o" (-low)).v m + 1 * (atm "o" "q" 0).v m + 1 * (atm "q" "p" 0).v m))
    (nV (fun m => 1 * (atm "p" "o" (-low)).v m + 1 * (atm "o" "q" 0).v m + 1 * (atm "q" "p" 0).v m)) = c_NEVER := by
  refine never_of ?_ fun m _ => sum_pm m
  show 1 * -low + 1 * 0 + 1 * 0 < 0
  omega
/-! ### names and forms -/
structure Nm3 (n0 n1 n2 : Str) : Prop where
  d01 : ¬ n0 = n1
  d02 : ¬ n0 = n2
  d12 : ¬ n1 = n2
  m : ∀ x ∈ [("o" : Str), "p", "q"], x = n0 ∨ x = n1 ∨ x = n2
  i : ∀ x ∈ [n0, n1, n2], x ∈ [("o" : Str), "p", "q"]
def sel3 (n0 n1 : Str) (f0 f1 f2 : At9) : Str → At9 := fun x => if x = n0 then f0 else if x = n1 then f1 else f2
def kv3 (n0 n1 n2 : Str) (f0 f1 f2 : At9) : List (L2.Key × Val) := [(.inr n0, .d f0.F), (.inr n1, .d f1.F), (.inr n2, .d f2.F)]
theorem kv3_get {n0 n1 n2 : Str} {f0 f1 f2 : At9} (N : Nm3 n0 n1 n2) {x : Str} (hx : x ∈ [("o" : Str), "p", "q"]) : dget (kv3 n0 n1 n2 f0 f1 f2) (.inr x) = some (.d (fD (sel3 n0 n1 f0 f1 f2 x).c (sel3 n0 n1 f0 f1 f2 x).v)) := by
  have e10 : ¬ n1 = n0 := fun e => N.d01 e.symm
  have e20 : ¬ n2 = n0 := fun e => N.d02 e.symm
  have e21 : ¬ n2 = n1 := fun e => N.d12 e.symm
  unfold kv3 dget sel3 At9.F
  rcases N.m x hx with rfl | rfl | rfl
  · simp
  · simp [N.d01, e10]
  · simp [N.d02, N.d12, e20, e21]
theorem merge3 {n0 n1 n2 : Str} {f0 f1 f2 : At9} (N : Nm3 n0 n1 n2) : dmerge [] (kv3 n0 n1 n2 f0 f1 f2) = kv3 n0 n1 n2 f0 f1 f2 := by
  unfold dmerge kv3
  simp [dput, N.d01, N.d02, N.d12]
theorem kv3_bel (m : Nat) (n0 n1 n2 : Str) (f0 f1 f2 : At9) : O.bel m (.dic (kv3 n0 n1 n2 f0 f1 f2)) = true := rfl
theorem nz_in {x : Str} : (x ∈ nzs (pm "p" "o") ∨ x ∈ nzs (pm "o" "q") ∨ x ∈ nzs (pm "q" "p")) → x ∈ [("o" : Str), "p", "q"] := by
  rw [nz_po, nz_oq, nz_qp]
  simp only [List.mem_cons, List.not_mem_nil, or_false]
  rintro ((h | h) | (h | h) | (h | h)) <;> simp [h]
end Lw
namespace Lw
open PySem PySem.Spec Dq
theorem opq5 : ∀ x ∈ [("o" : Str), "p", "q"], x ∈ N5 := by unfold N5; decide +kernel
section
variable {n0 n1 n2 : Str} {f0 f1 f2 : At9} {k r : Nat} {H : Hh}
/-- putting, in a heap with the table -/
theorem put_row {x y : Str} {c : Int} (N : Nm3 n0 n1 n2) (hs : Small (sel3 n0 n1 f0 f1 f2)) (hc : Bd 30 c) (hxy : ∀ n ∈ nzs (pm x y), n ∈ [("o" : Str), "p", "q"]) (hr : H[r]? = some (.dic (kv3 n0 n1 n2 f0 f1 f2))) :
    P (k + 2) .f_put_by [.d (fD c (pm x y)), .r r] H = .ok (.d (fD (rC x y c (sel3 n0 n1 f0 f1 f2)) (rV x y (sel3 n0 n1 f0 f1 f2)))) H :=
  p_put_by hr (hc.mono (by decide)) (pm_bd x y) (fun n => (hs n).1.mono (by decide)) (fun n m => ((hs n).2 m).mono (by decide)) fun n hn => kv3_get N (hxy n hn)
theorem lput_row {x y : Str} {c : Int} (N : Nm3 n0 n1 n2) (hs : Small (sel3 n0 n1 f0 f1 f2)) (hxy : ∀ n ∈ nzs (pm x y), n ∈ [("o" : Str), "p", "q"]) (hr : H[r]? = some (.dic (kv3 n0 n1 n2 f0 f1 f2))) :
    P (k + 1) .f__law_put [.d (fD c (pm x y)), .r r] H = .ok (.d (fD (rC x y c (sel3 n0 n1 f0 f1 f2)) (rV x y (sel3 n0 n1 f0 f1 f2)))) H :=
  p_law_put hr (pm_bd x y) (fun n => (hs n).1.mono (by decide)) (fun n m => ((hs n).2 m).mono (by decide)) fun n hn => kv3_get N (hxy n hn)
theorem scale_row {x y : Str} {c : Int} (N : Nm3 n0 n1 n2) (hs : Small (sel3 n0 n1 f0 f1 f2)) (hc : Bd 30 c) (hxy : ∀ n ∈ nzs (pm x y), n ∈ [("o" : Str), "p", "q"]) (hr : H[r]? = some (.dic (kv3 n0 n1 n2 f0 f1 f2))) :
    P (k + 3) .f__scale [.d (atm x y c).D, .r r] H = .ok (.d (.int (sC (rV x y (sel3 n0 n1 f0 f1 f2))))) H :=
  p_scale hr (hc.mono (by decide)) (pm_bd x y) (fun n => (hs n).1.mono (by decide)) (fun n m => ((hs n).2 m).mono (by decide)) fun n hn => kv3_get N (hxy n hn)
end
theorem xy_po : ∀ n ∈ nzs (pm "p" "o"), n ∈ [("o" : Str), "p", "q"] := fun n h => nz_in (.inl h)
theorem xy_oq : ∀ n ∈ nzs (pm "o" "q"), n ∈ [("o" : Str), "p", "q"] := fun n h => nz_in (.inr (.inl h))
theorem xy_qp : ∀ n ∈ nzs (pm "q" "p"), n ∈ [("o" : Str), "p", "q"] := fun n h => nz_in (.inr (.inr h))
theorem bd0 : Bd 30 0 := by unfold Bd; decide
/-- the rows, the paper -/
def rows3 (low : Int) (sel : Str → At9) : List At9 := [row "p" "o" (-low) sel, row "o" "q" 0 sel, row "q" "p" 0 sel]
def atms3 (low : Int) : List At9 := [atm "p" "o" (-low), atm "o" "q" 0, atm "q" "p" 0]
def paper3 (low : Int) (sel : Str → At9) : D := if (rows3 low sel).any nvr = true then paF (fst3 (row "p" "o" (-low) sel) (row "o" "q" 0 sel) (row "q" "p" 0 sel)) else paS (sC (rV "p" "o" sel)) (sC (rV "o" "q" sel)) (sC (rV "q" "p" sel))
theorem getD3 {b : Nat} {p : At9 → Int} {A0 A1 A2 : At9} (h0 : Bd b (p A0)) (h1 : Bd b (p A1)) (h2 : Bd b (p A2)) (i : Nat) : Bd b (p (([A0, A1, A2] : List At9).getD i A0)) := by
  match i with
  | 0 => exact h0
  | 1 => exact h1
  | 2 => exact h2
  | n + 3 => exact h0
section
variable {low : Int} (hl : 0 < low) (hl3 : low ≤ 3)
include hl hl3
theorem low_bd : Bd 30 (-low) := by unfold Bd; omega
theorem own_rf {k : Nat} {n0 n1 n2 : Str} (N : Nm3 n0 n1 n2) {h : Hh} : P (k + 8) .f_refutation_fault [.d (.tup ([n0, n1, n2].map D.str)), .d .non, .d (.tup ((atms3 low).map At9.D)), .d (paS 1 1 1)] h = .ok (.d .non) h := by
  have o1 : Bd 100 1 := by unfold Bd; decide
  refine p_rfS (fun n hn => opq5 n (N.i n hn)) ?_ (by show 3 ≤ 5; decide) ?_ (getD3 (p := fun a => a.c) ((low_bd hl hl3).mono (by decide)) (bd0.mono (by decide)) (bd0.mono (by decide))) (fun i m => getD3 (p := fun a => a.v m) (pm_bd _ _ _) (pm_bd _ _ _) (pm_bd _ _ _) i) o1 o1 o1 (by decide) (by decide) (by decide) (own_never hl)
  · have := N.d01
    have := N.d02
    have := N.d12
    simp [*]
  · intro a ha n hn
    have q : n ∈ [("o" : Str), "p", "q"] := by
      simp only [List.mem_cons, List.not_mem_nil, or_false] at ha
      rcases ha with rfl | rfl | rfl
      · exact xy_po n hn
      · exact xy_oq n hn
      · exact xy_qp n hn
    rcases N.m n q with rfl | rfl | rfl <;> simp
theorem p_rc {k : Nat} {n0 n1 n2 : Str} {f0 f1 f2 : At9} (N : Nm3 n0 n1 n2) (hs : Small (sel3 n0 n1 f0 f1 f2)) {h : Hh} :
    P (k + 9) .f_refutation_called [.d (.tup ([n0, n1, n2].map D.str)), .d (.tup ((atms3 low).map At9.D)), .d (paS 1 1 1), .d (.tup ([f0, f1, f2].map At9.F))] h =
      .ok (.d (.tup [.tup ((rows3 low (sel3 n0 n1 f0 f1 f2)).map At9.D), paper3 low (sel3 n0 n1 f0 f1 f2)])) h := by
  have hsl := sz
  have z0' : (0 : Nat) < sizeLine := by omega
  have z1' : (1 : Nat) < sizeLine := by omega
  have z2' : (2 : Nat) < sizeLine := by omega
  have z2 : (2 : Nat) ≤ sizeLine := by omega
  have lb := low_bd hl hl3
  have cs := rCs hs lb
  have cs0 := rCs hs bd0
  have vs := rVs hs
  have rf := own_rf (k := k) hl hl3 N (h := h)
  have su := p_are_sums (k := k + 7) (h := h)
  -- is_form of each
  have l1 := lc_tr (g := gVar 6) (ρ := [some (.d (.tup ([n0, n1, n2].map D.str))), some (.d (.tup ((atms3 low).map At9.D))), some (.d (paS 1 1 1)), some (.d (.tup ([f0, f1, f2].map At9.F))), none, none, none, none]) (t := qYes (G := G) (P (k + 8))) (e := eFn (G := G) .f_is_form (aCons (eVar 6) aNil) (P (k + 8))) (chk := fun _ => True) h (([f0, f1, f2].map At9.F).map Val.d) (fun _ => trivial) (by show 3 ≤ sizeLine; omega) (fun u hu b => by
    obtain ⟨x, hx, rfl⟩ := List.mem_map.mp hu
    obtain ⟨a, ha, rfl⟩ := List.mem_map.mp hx
    have pa := p_is_form (k := k + 5) (c := a.c) (v := a.v) (h := h ++ [O.lst b])
    refine ⟨_, rfl, rfl, ?_⟩
    unfold At9.F
    simp [psF, pa])
  -- the table
  let KV := kv3 n0 n1 n2 f0 f1 f2
  have gk := gc_r (h := h) (t := [O.lst [.d (.tup [.str n0, f0.F]), .d (.tup [.str n1, f1.F]), .d (.tup [.str n2, f2.F])]]) (u := []) (kv3_bel h.length n0 n1 n2 f0 f1 f2)
  have pv : pairsV [.d (.tup [.str n0, f0.F]), .d (.tup [.str n1, f1.F]), .d (.tup [.str n2, f2.F])] = some KV := by
    simp [pairsV, pairV, keyV, keyD, KV, kv3]
  have mg : dmerge [] KV = KV := merge3 N
  have zp : kListZip [.d (.tup ([n0, n1, n2].map D.str)), .d (.tup ([f0, f1, f2].map At9.F))] h = some (.r h.length, h ++ [O.lst [.d (.tup [.str n0, f0.F]), .d (.tup [.str n1, f1.F]), .d (.tup [.str n2, f2.F])]]) := by
    simp [kListZip, seqOf, zipV, mkTup, allD]
  have cd : cDict [.r h.length] (h ++ [O.lst [.d (.tup [.str n0, f0.F]), .d (.tup [.str n1, f1.F]), .d (.tup [.str n2, f2.F])]]) = some (.r (h.length + 1), h ++ [O.lst [.d (.tup [.str n0, f0.F]), .d (.tup [.str n1, f1.F]), .d (.tup [.str n2, f2.F])], O.dic KV]) := by
    unfold cDict
    simp only [get_last, pv, Option.map_some, mg]
    simp
  -- rows
  have hd : ∀ u : Hh, (h ++ (O.dic KV :: u))[h.length]? = some (.dic KV) := fun u => by simp
  have P0 : ∀ u : Hh, P (k + 8) .f_put_by [.d (fD (-low) (pm "p" "o")), .r h.length] (h ++ (O.dic KV :: u)) = .ok (.d (fD (rC "p" "o" (-low) (sel3 n0 n1 f0 f1 f2)) (rV "p" "o" (sel3 n0 n1 f0 f1 f2)))) (h ++ (O.dic KV :: u)) := fun u => put_row (k := k + 6) N hs lb xy_po (hd u)
  have P1 : ∀ u : Hh, P (k + 8) .f_put_by [.d (fD 0 (pm "o" "q")), .r h.length] (h ++ (O.dic KV :: u)) = .ok (.d (fD (rC "o" "q" 0 (sel3 n0 n1 f0 f1 f2)) (rV "o" "q" (sel3 n0 n1 f0 f1 f2)))) (h ++ (O.dic KV :: u)) := fun u => put_row (k := k + 6) N hs bd0 xy_oq (hd u)
  have P2 : ∀ u : Hh, P (k + 8) .f_put_by [.d (fD 0 (pm "q" "p")), .r h.length] (h ++ (O.dic KV :: u)) = .ok (.d (fD (rC "q" "p" 0 (sel3 n0 n1 f0 f1 f2)) (rV "q" "p" (sel3 n0 n1 f0 f1 f2)))) (h ++ (O.dic KV :: u)) := fun u => put_row (k := k + 6) N hs bd0 xy_qp (hd u)
  have M0 : ∀ u : Hh, P (k + 8) .f_normal_of [.d (fD (rC "p" "o" (-low) (sel3 n0 n1 f0 f1 f2)) (rV "p" "o" (sel3 n0 n1 f0 f1 f2)))] u = .ok (.d (row "p" "o" (-low) (sel3 n0 n1 f0 f1 f2)).D) u := fun u => p_normal (k := k + 6) fun n => (vs n).1.sm (by decide)
  have M1 : ∀ u : Hh, P (k + 8) .f_normal_of [.d (fD (rC "o" "q" 0 (sel3 n0 n1 f0 f1 f2)) (rV "o" "q" (sel3 n0 n1 f0 f1 f2)))] u = .ok (.d (row "o" "q" 0 (sel3 n0 n1 f0 f1 f2)).D) u := fun u => p_normal (k := k + 6) fun n => (vs n).2.1.sm (by decide)
  have M2 : ∀ u : Hh, P (k + 8) .f_normal_of [.d (fD (rC "q" "p" 0 (sel3 n0 n1 f0 f1 f2)) (rV "q" "p" (sel3 n0 n1 f0 f1 f2)))] u = .ok (.d (row "q" "p" 0 (sel3 n0 n1 f0 f1 f2)).D) u := fun u => p_normal (k := k + 6) fun n => (vs n).2.2.sm (by decide)
  have hr0 : (h ++ [O.dic KV])[h.length]? = some (.dic KV) := hd []
  have cl : P (k + 8) .f__called [.d (.tup ((atms3 low).map At9.D)), .d (paS 1 1 1), .r h.length, .d (.tup ((rows3 low (sel3 n0 n1 f0 f1 f2)).map At9.D))] (h ++ [O.dic KV]) = .ok (.d (paper3 low (sel3 n0 n1 f0 f1 f2))) (h ++ [O.dic KV]) := by
    unfold paper3
    by_cases hN : (rows3 low (sel3 n0 n1 f0 f1 f2)).any nvr = true
    · rw [if_pos hN]
      exact p_called1 (k := k + 7) hN
    · rw [if_neg hN]
      have hN : (rows3 low (sel3 n0 n1 f0 f1 f2)).any nvr = false := by simpa using hN
      exact p_called2 (k := k + 4) hN ((sC_bd (fun n => (vs n).1) (by decide)).mono (by decide)) ((sC_bd (fun n => (vs n).2.1) (by decide)).mono (by decide)) ((sC_bd (fun n => (vs n).2.2) (by decide)).mono (by decide)) hr0
        (getD3 (p := fun a => a.c) (lb.mono (by decide)) (bd0.mono (by decide)) (bd0.mono (by decide))) (fun i m => getD3 (p := fun a => a.v m) (pm_bd _ _ _) (pm_bd _ _ _) (pm_bd _ _ _) i)
        (getD3 (p := fun a => a.c) (nC_bd (cs.1.mono (by decide)) (by decide)) (nC_bd (cs0.2.1.mono (by decide)) (by decide)) (nC_bd (cs0.2.2.mono (by decide)) (by decide)))
        (fun i m => getD3 (p := fun a => a.v m) ((nV_bd (fun n => (vs n).1) m).mono (by decide)) ((nV_bd (fun n => (vs n).2.1) m).mono (by decide)) ((nV_bd (fun n => (vs n).2.2) m).mono (by decide)) i)
        (fun H hH => scale_row (k := k + 4) N hs lb xy_po hH) (fun H hH => scale_row (k := k + 4) N hs bd0 xy_oq hH) (fun H hH => scale_row (k := k + 4) N hs bd0 xy_qp hH) (sum_never hl hN)
  have ixA : ∀ (c : Int) (v : Str → Int) (u : Hh), vIx (.d (At9.D ⟨c, v⟩)) (.d (.int 1)) u = some (.d (fD c v), u) := fun c v u => by simp [At9.D, aD, vIx, seqOf, L2.atI, L2.ixN]
  have A0 := ixA (-low) (pm "p" "o")
  have A1 := ixA 0 (pm "o" "q")
  have A2 := ixA 0 (pm "q" "p")
  have eR : (rows3 low (sel3 n0 n1 f0 f1 f2)).map At9.D = [(row "p" "o" (-low) (sel3 n0 n1 f0 f1 f2)).D, (row "o" "q" 0 (sel3 n0 n1 f0 f1 f2)).D, (row "q" "p" 0 (sel3 n0 n1 f0 f1 f2)).D] := rfl
  have eA : (atms3 low).map At9.D = [At9.D ⟨-low, pm "p" "o"⟩, At9.D ⟨0, pm "o" "q"⟩, At9.D ⟨0, pm "q" "p"⟩] := rfl
  have lF : ([f0, f1, f2].map At9.F).length = 3 := rfl
  have lN : ([n0, n1, n2].map D.str).length = 3 := rfl
  rw [P_s]
  simp only [bd, b_refutation_called, fnR, nF, startE]
  rw [eR] at cl ⊢
  generalize paper3 low (sel3 n0 n1 f0 f1 f2) = PP at *
  generalize (row "p" "o" (-low) (sel3 n0 n1 f0 f1 f2)).D = R0 at *
  generalize (row "o" "q" 0 (sel3 n0 n1 f0 f1 f2)).D = R1 at *
  generalize (row "q" "p" 0 (sel3 n0 n1 f0 f1 f2)).D = R2 at *
  rw [eA] at rf cl l1 ⊢
  generalize At9.D ⟨-low, pm "p" "o"⟩ = B0 at *
  generalize At9.D ⟨0, pm "o" "q"⟩ = B1 at *
  generalize At9.D ⟨0, pm "q" "p"⟩ = B2 at *
  generalize fD (-low) (pm "p" "o") = X0 at *
  generalize fD 0 (pm "o" "q") = X1 at *
  generalize fD 0 (pm "q" "p") = X2 at *
  generalize [f0, f1, f2].map At9.F = FL at *
  generalize [n0, n1, n2].map D.str = NL at *
  generalize paS 1 1 1 = PA at *
  generalize [Val.d (.tup [.str n0, f0.F]), .d (.tup [.str n1, f1.F]), .d (.tup [.str n2, f2.F])] = ZL at *
  have gk : gc h (.ok (.r (h.length + 1)) (h ++ [O.lst ZL, O.dic KV])) = .ok (.r h.length) (h ++ [O.dic KV]) := gk
  have gfin := fun y => gc_d (x := y) (h := h) (t := [O.dic KV])
  generalize KV = KV at *
  have tc : ∀ y, gc (h ++ [O.dic KV]) (.ok (.d y) (h ++ [O.dic KV, O.lst [.d R0, .d R1, .d R2]])) = .ok (.d y) (h ++ [O.dic KV]) := fun y => by
    have := gc_d (x := y) (h := h ++ [O.dic KV]) (t := [O.lst [.d R0, .d R1, .d R2]])
    simpa using this
  have hd1 : ∀ a : List Val, (h ++ [O.dic KV, O.lst a])[h.length + 1]? = some (.lst a) := fun a => by
    rw [List.getElem?_append_right (by omega)]
    simp
  have hs1 : ∀ a b : List Val, (h ++ [O.dic KV, O.lst a]).set (h.length + 1) (.lst b) = h ++ [O.dic KV, O.lst b] := fun a b => by
    rw [List.set_append_right _ _ (by omega)]
    simp
  have ct : cTuple [.r (h.length + 1)] (h ++ [O.dic KV, O.lst [.d R0, .d R1, .d R2]]) = some (.d (.tup [R0, R1, R2]), h ++ [O.dic KV, O.lst [.d R0, .d R1, .d R2]]) := by
    simp [cTuple, tupOf, lstOf, hd1, mkTup, allD, z2]
  have lr : lcGo (h.length + 1) (fun _ => True) (gVar 7) [some (.d (.tup NL)), some (.d (.tup [B0, B1, B2])), some (.d PA), some (.d (.tup FL)), some (.r h.length), none, none, none] (qYes (G := G) (P (k + 8)))
      (eGc (eFn (G := G) .f_normal_of (aCons (eFn .f_put_by (aCons (o2 vIx (eVar 7) (eC (.int 1))) (aCons (eVar 4) aNil))) aNil)) (P (k + 8))) [.d B0, .d B1, .d B2] (h ++ [O.dic KV, O.lst []]) = some (h ++ [O.dic KV, O.lst [.d R0, .d R1, .d R2]]) := by
    simp [x_lcCons, A0, A1, A2, psF, P0, P1, P2, M0, M1, M2, gc_d0, hd1, hs1, z0', z1', z2']
  simp [-List.map_map, psF, rf, vNotN, Val.isNon, su, truB, gcB_ok0, vIsi, tyN, isTy, cLen, lenB, seqOf, lF, lN, vNe, eqB, scalD, D.eqv, itOf, wipeE, l1, all_last, gc_d, gcB_ok, zp, cd, gk, gc_d0, lr, ct, tc, cl, gfin, mkTup, allD, z2]
end
end Lw
namespace Lw
open PySem PySem.Spec Dq
theorem eq_never {a : At9} {H : Hh} : vEq (.d a.D) (.d c_NEVER) H = some (.d (.bl (nvr a)), H) := by
  have f0 : D.fit 64 c_NEVER = true := by decide +kernel
  have f1 : D.fit 64 a.D = true := fit_aD 60
  simp only [vEq, eqB]
  rw [if_pos (.inr ⟨f1, f0⟩)]
  rfl
section
variable {low : Int} (hl : 0 < low) (hl3 : low ≤ 3)
include hl hl3
theorem p_law_due {k : Nat} {n0 n1 n2 : Str} {f0 f1 f2 : At9} (N : Nm3 n0 n1 n2) (hs : Small (sel3 n0 n1 f0 f1 f2)) {h : Hh} :
    P (k + 9) .f__law_due [.d (.tup ([n0, n1, n2].map D.str)), .d (.tup ((atms3 low).map At9.D)), .d (.tup ([f0, f1, f2].map At9.F))] h =
      .ok (.d (.tup [.tup ((rows3 low (sel3 n0 n1 f0 f1 f2)).map At9.D), paper3 low (sel3 n0 n1 f0 f1 f2)])) h := by
  have hsl := sz
  have z0' : (0 : Nat) < sizeLine := by omega
  have z1' : (1 : Nat) < sizeLine := by omega
  have z2' : (2 : Nat) < sizeLine := by omega
  have z1 : (1 : Nat) ≤ sizeLine := by omega
  have z2 : (2 : Nat) ≤ sizeLine := by omega
  have z3 : (3 : Nat) ≤ sizeLine := by omega
  have lb := low_bd hl hl3
  have vs := rVs hs
  let KV := kv3 n0 n1 n2 f0 f1 f2
  let ZL : List Val := [.d (.tup [.str n0, f0.F]), .d (.tup [.str n1, f1.F]), .d (.tup [.str n2, f2.F])]
  have gk : gc h (.ok (.r (h.length + 1)) (h ++ [O.lst ZL, O.dic KV])) = .ok (.r h.length) (h ++ [O.dic KV]) := gc_r (h := h) (t := [O.lst [.d (.tup [.str n0, f0.F]), .d (.tup [.str n1, f1.F]), .d (.tup [.str n2, f2.F])]]) (u := []) (kv3_bel h.length n0 n1 n2 f0 f1 f2)
  have pv : pairsV ZL = some KV := by
    simp [pairsV, pairV, keyV, keyD, KV, kv3, ZL]
  have mg : dmerge [] KV = KV := merge3 N
  have cd : cDict [.r h.length] (h ++ [O.lst ZL]) = some (.r (h.length + 1), h ++ [O.lst ZL, O.dic KV]) := by
    unfold cDict
    simp only [get_last, pv, Option.map_some, mg]
    simp
  have hd : ∀ u : Hh, (h ++ (O.dic KV :: u))[h.length]? = some (.dic KV) := fun u => by simp
  have P0 : ∀ u : Hh, P (k + 8) .f__law_put [.d (fD (-low) (pm "p" "o")), .r h.length] (h ++ (O.dic KV :: u)) = .ok (.d (fD (rC "p" "o" (-low) (sel3 n0 n1 f0 f1 f2)) (rV "p" "o" (sel3 n0 n1 f0 f1 f2)))) (h ++ (O.dic KV :: u)) := fun u => lput_row (k := k + 7) N hs xy_po (hd u)
  have P1 : ∀ u : Hh, P (k + 8) .f__law_put [.d (fD 0 (pm "o" "q")), .r h.length] (h ++ (O.dic KV :: u)) = .ok (.d (fD (rC "o" "q" 0 (sel3 n0 n1 f0 f1 f2)) (rV "o" "q" (sel3 n0 n1 f0 f1 f2)))) (h ++ (O.dic KV :: u)) := fun u => lput_row (k := k + 7) N hs xy_oq (hd u)
  have P2 : ∀ u : Hh, P (k + 8) .f__law_put [.d (fD 0 (pm "q" "p")), .r h.length] (h ++ (O.dic KV :: u)) = .ok (.d (fD (rC "q" "p" 0 (sel3 n0 n1 f0 f1 f2)) (rV "q" "p" (sel3 n0 n1 f0 f1 f2)))) (h ++ (O.dic KV :: u)) := fun u => lput_row (k := k + 7) N hs xy_qp (hd u)
  have M0 : ∀ u : Hh, P (k + 8) .f__law_normal [.d (fD (rC "p" "o" (-low) (sel3 n0 n1 f0 f1 f2)) (rV "p" "o" (sel3 n0 n1 f0 f1 f2)))] u = .ok (.d (row "p" "o" (-low) (sel3 n0 n1 f0 f1 f2)).D) u := fun u => p_law_normal (k := k + 6) fun n => (vs n).1.sm (by decide)
  have M1 : ∀ u : Hh, P (k + 8) .f__law_normal [.d (fD (rC "o" "q" 0 (sel3 n0 n1 f0 f1 f2)) (rV "o" "q" (sel3 n0 n1 f0 f1 f2)))] u = .ok (.d (row "o" "q" 0 (sel3 n0 n1 f0 f1 f2)).D) u := fun u => p_law_normal (k := k + 6) fun n => (vs n).2.1.sm (by decide)
  have M2 : ∀ u : Hh, P (k + 8) .f__law_normal [.d (fD (rC "q" "p" 0 (sel3 n0 n1 f0 f1 f2)) (rV "q" "p" (sel3 n0 n1 f0 f1 f2)))] u = .ok (.d (row "q" "p" 0 (sel3 n0 n1 f0 f1 f2)).D) u := fun u => p_law_normal (k := k + 6) fun n => (vs n).2.2.sm (by decide)
  have S0 : ∀ u : Hh, P (k + 8) .f__law_scale [.d (fD (rC "p" "o" (-low) (sel3 n0 n1 f0 f1 f2)) (rV "p" "o" (sel3 n0 n1 f0 f1 f2)))] u = .ok (.d (.int (sC (rV "p" "o" (sel3 n0 n1 f0 f1 f2))))) u := fun u => p_law_scale (k := k + 6)
  have S1 : ∀ u : Hh, P (k + 8) .f__law_scale [.d (fD (rC "o" "q" 0 (sel3 n0 n1 f0 f1 f2)) (rV "o" "q" (sel3 n0 n1 f0 f1 f2)))] u = .ok (.d (.int (sC (rV "o" "q" (sel3 n0 n1 f0 f1 f2))))) u := fun u => p_law_scale (k := k + 6)
  have S2 : ∀ u : Hh, P (k + 8) .f__law_scale [.d (fD (rC "q" "p" 0 (sel3 n0 n1 f0 f1 f2)) (rV "q" "p" (sel3 n0 n1 f0 f1 f2)))] u = .ok (.d (.int (sC (rV "q" "p" (sel3 n0 n1 f0 f1 f2))))) u := fun u => p_law_scale (k := k + 6)
  have ixA : ∀ (c : Int) (v : Str → Int) (u : Hh), vIx (.d (At9.D ⟨c, v⟩)) (.d (.int 1)) u = some (.d (fD c v), u) := fun c v u => by simp [At9.D, aD, vIx, seqOf, L2.atI, L2.ixN]
  have A0 := ixA (-low) (pm "p" "o")
  have A1 := ixA 0 (pm "o" "q")
  have A2 := ixA 0 (pm "q" "p")
  have V0 := fun H : Hh => eq_never (a := row "p" "o" (-low) (sel3 n0 n1 f0 f1 f2)) (H := H)
  have V1 := fun H : Hh => eq_never (a := row "o" "q" 0 (sel3 n0 n1 f0 f1 f2)) (H := H)
  have V2 := fun H : Hh => eq_never (a := row "q" "p" 0 (sel3 n0 n1 f0 f1 f2)) (H := H)
  have eR : (rows3 low (sel3 n0 n1 f0 f1 f2)).map At9.D = [(row "p" "o" (-low) (sel3 n0 n1 f0 f1 f2)).D, (row "o" "q" 0 (sel3 n0 n1 f0 f1 f2)).D, (row "q" "p" 0 (sel3 n0 n1 f0 f1 f2)).D] := rfl
  have eA : (atms3 low).map At9.D = [At9.D ⟨-low, pm "p" "o"⟩, At9.D ⟨0, pm "o" "q"⟩, At9.D ⟨0, pm "q" "p"⟩] := rfl
  have eP : paper3 low (sel3 n0 n1 f0 f1 f2) = if (nvr (row "p" "o" (-low) (sel3 n0 n1 f0 f1 f2)) || (nvr (row "o" "q" 0 (sel3 n0 n1 f0 f1 f2)) || nvr (row "q" "p" 0 (sel3 n0 n1 f0 f1 f2)))) = true then
      paF (if nvr (row "p" "o" (-low) (sel3 n0 n1 f0 f1 f2)) = true then 0 else if nvr (row "o" "q" 0 (sel3 n0 n1 f0 f1 f2)) = true then 1 else 2) else paS (sC (rV "p" "o" (sel3 n0 n1 f0 f1 f2))) (sC (rV "o" "q" (sel3 n0 n1 f0 f1 f2))) (sC (rV "q" "p" (sel3 n0 n1 f0 f1 f2))) := by
    unfold paper3 rows3 fst3
    simp only [List.any_cons, List.any_nil, Bool.or_false]
  rw [eP, eR]
  rw [eA]
  have eN : c_NEVER = .tup [.str "least", .tup [.int (-1), .tup []]] := rfl
  rw [P_s]
  simp only [bd, b__law_due, fnR, nF, startE]
  generalize nvr (row "p" "o" (-low) (sel3 n0 n1 f0 f1 f2)) = b0 at *
  generalize nvr (row "o" "q" 0 (sel3 n0 n1 f0 f1 f2)) = b1 at *
  generalize nvr (row "q" "p" 0 (sel3 n0 n1 f0 f1 f2)) = b2 at *
  generalize (row "p" "o" (-low) (sel3 n0 n1 f0 f1 f2)).D = R0 at *
  generalize (row "o" "q" 0 (sel3 n0 n1 f0 f1 f2)).D = R1 at *
  generalize (row "q" "p" 0 (sel3 n0 n1 f0 f1 f2)).D = R2 at *
  generalize At9.D ⟨-low, pm "p" "o"⟩ = B0 at *
  generalize At9.D ⟨0, pm "o" "q"⟩ = B1 at *
  generalize At9.D ⟨0, pm "q" "p"⟩ = B2 at *
  generalize fD (-low) (pm "p" "o") = X0 at *
  generalize fD 0 (pm "o" "q") = X1 at *
  generalize fD 0 (pm "q" "p") = X2 at *
  generalize fD (rC "p" "o" (-low) (sel3 n0 n1 f0 f1 f2)) (rV "p" "o" (sel3 n0 n1 f0 f1 f2)) = Y0 at *
  generalize fD (rC "o" "q" 0 (sel3 n0 n1 f0 f1 f2)) (rV "o" "q" (sel3 n0 n1 f0 f1 f2)) = Y1 at *
  generalize fD (rC "q" "p" 0 (sel3 n0 n1 f0 f1 f2)) (rV "q" "p" (sel3 n0 n1 f0 f1 f2)) = Y2 at *
  generalize sC (rV "p" "o" (sel3 n0 n1 f0 f1 f2)) = s0 at *
  generalize sC (rV "o" "q" (sel3 n0 n1 f0 f1 f2)) = s1 at *
  generalize sC (rV "q" "p" (sel3 n0 n1 f0 f1 f2)) = s2 at *
  have lz : ∀ x1, lcGo h.length (fun _ => True) (gVar 7) [some (.d (.tup ([n0, n1, n2].map D.str))), x1, some (.d (.tup ([f0, f1, f2].map At9.F))), none, none, none, none, none, none, none] (qYes (G := G) (P (k + 8)))
      (eTup (G := G) (aCons (o2 vIx (eVar 0) (eVar 7)) (aCons (o2 vIx (eVar 2) (eVar 7)) aNil)) (P (k + 8))) [.d (.int 0), .d (.int 1), .d (.int 2)] (h ++ [O.lst []]) = some (h ++ [O.lst ZL]) := fun x1 => by
    simp [x_lcCons, vIx, seqOf, L2.atI, L2.ixN, mkTup, allD, z0', z1', z2', z2, ZL]
  generalize [f0, f1, f2].map At9.F = FL at *
  generalize [n0, n1, n2].map D.str = NL at *
  generalize ZL = ZL at *
  generalize KV = KV at *
  have hd1 : ∀ (o : O) (u : Hh), (h ++ (O.dic KV :: o :: u))[h.length + 1]? = some o := fun a u => by
    rw [List.getElem?_append_right (by omega)]
    simp
  have hs1 : ∀ a b : List Val, (h ++ [O.dic KV, O.lst a]).set (h.length + 1) (.lst b) = h ++ [O.dic KV, O.lst b] := fun a b => by
    rw [List.set_append_right _ _ (by omega)]
    simp
  have hd2 : ∀ (p o : O) (u : Hh), (h ++ (O.dic KV :: p :: o :: u))[h.length + 2]? = some o := fun p o u => by
    rw [List.getElem?_append_right (by omega)]
    simp
  have hs2 : ∀ (p : O) (a b : List Val), (h ++ [O.dic KV, p, O.lst a]).set (h.length + 2) (.lst b) = h ++ [O.dic KV, p, O.lst b] := fun p a b => by
    rw [List.set_append_right _ _ (by omega)]
    simp
  have hd3 : ∀ (p q o : O) (u : Hh), (h ++ (O.dic KV :: p :: q :: o :: u))[h.length + 3]? = some o := fun p q o u => by
    rw [List.getElem?_append_right (by omega)]
    simp
  have hs3 : ∀ (p q : O) (a b : List Val), (h ++ [O.dic KV, p, q, O.lst a]).set (h.length + 3) (.lst b) = h ++ [O.dic KV, p, q, O.lst b] := fun p q a b => by
    rw [List.set_append_right _ _ (by omega)]
    simp
  have lp : lcGo (h.length + 1) (fun _ => True) (gVar 8) [some (.d (.tup NL)), some (.d (.tup [B0, B1, B2])), some (.d (.tup FL)), some (.r h.length), none, none, none, none, none, none] (qYes (G := G) (P (k + 8)))
      (eFn (G := G) .f__law_put (aCons (o2 vIx (eVar 8) (eC (.int 1))) (aCons (eVar 3) aNil)) (P (k + 8))) [.d B0, .d B1, .d B2] (h ++ [O.dic KV, O.lst []]) = some (h ++ [O.dic KV, O.lst [.d Y0, .d Y1, .d Y2]]) := by
    simp [x_lcCons, A0, A1, A2, psF, P0, P1, P2, hd1, hs1, z0', z1', z2']
  have gp : gc (h ++ [O.dic KV]) (.ok (.r (h.length + 1)) (h ++ [O.dic KV, O.lst [.d Y0, .d Y1, .d Y2]])) = .ok (.r (h.length + 1)) (h ++ [O.dic KV, O.lst [.d Y0, .d Y1, .d Y2]]) := by
    have := gc_r1 (h := h ++ [O.dic KV]) (o := O.lst [.d Y0, .d Y1, .d Y2])
    simpa using this
  have ln : lcGo (h.length + 2) (fun h' => h'[h.length + 1]? = some (O.lst [.d Y0, .d Y1, .d Y2])) (gVar 9) [some (.d (.tup NL)), some (.d (.tup [B0, B1, B2])), some (.d (.tup FL)), some (.r h.length), some (.r (h.length + 1)), none, none, none, none, none] (qYes (G := G) (P (k + 8)))
      (eFn (G := G) .f__law_normal (aCons (eVar 9) aNil) (P (k + 8))) [.d Y0, .d Y1, .d Y2] (h ++ [O.dic KV, O.lst [.d Y0, .d Y1, .d Y2], O.lst []]) = some (h ++ [O.dic KV, O.lst [.d Y0, .d Y1, .d Y2], O.lst [.d R0, .d R1, .d R2]]) := by
    simp [x_lcCons, psF, M0, M1, M2, hd1, hd2, hs2, z0', z1', z2']
  have cn : cTuple [.r (h.length + 2)] (h ++ [O.dic KV, O.lst [.d Y0, .d Y1, .d Y2], O.lst [.d R0, .d R1, .d R2]]) = some (.d (.tup [R0, R1, R2]), h ++ [O.dic KV, O.lst [.d Y0, .d Y1, .d Y2], O.lst [.d R0, .d R1, .d R2]]) := by
    simp [cTuple, tupOf, lstOf, hd2, mkTup, allD, z2]
  have gn : ∀ (x : D) (u : Hh), gc (h ++ [O.dic KV, O.lst [.d Y0, .d Y1, .d Y2]]) (.ok (.d x) (h ++ (O.dic KV :: O.lst [.d Y0, .d Y1, .d Y2] :: u))) = .ok (.d x) (h ++ [O.dic KV, O.lst [.d Y0, .d Y1, .d Y2]]) := fun x u => by
    have := gc_d (x := x) (h := h ++ [O.dic KV, O.lst [.d Y0, .d Y1, .d Y2]]) (t := u)
    simpa using this
  have lv : lcGo (h.length + 2) (fun _ => True) (gVar 7) [some (.d (.tup NL)), some (.d (.tup [B0, B1, B2])), some (.d (.tup FL)), some (.r h.length), some (.r (h.length + 1)), some (.d (.tup [R0, R1, R2])), none, none, none, none]
      (qVal (G := G) (o2 vEq (o2 vIx (eVar 5) (eVar 7)) (eTup (aCons (eC (.str ("least" : Str))) (aCons (eTup (aCons (o1 vNeg (eC (.int 1))) (aCons (eTup aNil) aNil))) aNil)))) (P (k + 8))) (eVar (G := G) 7 (P (k + 8))) [.d (.int 0), .d (.int 1), .d (.int 2)] (h ++ [O.dic KV, O.lst [.d Y0, .d Y1, .d Y2], O.lst []]) =
      some (h ++ [O.dic KV, O.lst [.d Y0, .d Y1, .d Y2], O.lst ((if b0 = true then [.d (.int 0)] else []) ++ ((if b1 = true then [.d (.int 1)] else []) ++ (if b2 = true then [.d (.int 2)] else [])))]) := by
    rw [eN] at V0 V1 V2
    cases b0 <;> cases b1 <;> cases b2 <;> simp [x_lcCons, vIx, seqOf, L2.atI, L2.ixN, vNeg, mkTup, allD, z0', z1', z2', z2, V0, V1, V2, truB, hd2, hs2]
  generalize hNL : ((if b0 = true then [.d (.int 0)] else []) ++ ((if b1 = true then [.d (.int 1)] else []) ++ (if b2 = true then [.d (.int 2)] else [])) : List Val) = NVL at *
  have gl : gc (h ++ [O.dic KV, O.lst [.d Y0, .d Y1, .d Y2]]) (.ok (.r (h.length + 2)) (h ++ [O.dic KV, O.lst [.d Y0, .d Y1, .d Y2], O.lst NVL])) = .ok (.r (h.length + 2)) (h ++ [O.dic KV, O.lst [.d Y0, .d Y1, .d Y2], O.lst NVL]) := by
    have := gc_r1 (h := h ++ [O.dic KV, O.lst [.d Y0, .d Y1, .d Y2]]) (o := O.lst NVL)
    simpa using this
  have gm : ∀ (x : D) (u : Hh), gc (h ++ [O.dic KV, O.lst [.d Y0, .d Y1, .d Y2], O.lst NVL]) (.ok (.d x) (h ++ (O.dic KV :: O.lst [.d Y0, .d Y1, .d Y2] :: O.lst NVL :: u))) = .ok (.d x) (h ++ [O.dic KV, O.lst [.d Y0, .d Y1, .d Y2], O.lst NVL]) := fun x u => by
    have := gc_d (x := x) (h := h ++ [O.dic KV, O.lst [.d Y0, .d Y1, .d Y2], O.lst NVL]) (t := u)
    simpa using this
  have lq : lcGo (h.length + 3) (fun _ => True) (gVar 7) [some (.d (.tup NL)), some (.d (.tup [B0, B1, B2])), some (.d (.tup FL)), some (.r h.length), some (.r (h.length + 1)), some (.d (.tup [R0, R1, R2])), some (.r (h.length + 2)), none, none, none] (qYes (G := G) (P (k + 8)))
      (eGc (eTup (aCons (eVar 7) (aCons (eFn (G := G) .f__law_scale (aCons (o2 vIx (eVar 4) (eVar 7)) aNil)) aNil))) (P (k + 8))) [.d (.int 0), .d (.int 1), .d (.int 2)] (h ++ [O.dic KV, O.lst [.d Y0, .d Y1, .d Y2], O.lst NVL, O.lst []]) =
      some (h ++ [O.dic KV, O.lst [.d Y0, .d Y1, .d Y2], O.lst NVL, O.lst ((pairD [(0, s0), (1, s1), (2, s2)]).map Val.d)]) := by
    simp [x_lcCons, vIx, seqOf, L2.atI, L2.ixN, mkTup, allD, z0', z1', z2', z2, hd1, hd3, hs3, S0, S1, S2, psF, gc_d0, pairD]
  have cq : cTuple [.r (h.length + 3)] (h ++ [O.dic KV, O.lst [.d Y0, .d Y1, .d Y2], O.lst NVL, O.lst ((pairD [(0, s0), (1, s1), (2, s2)]).map Val.d)]) = some (.d (.tup (pairD [(0, s0), (1, s1), (2, s2)])), h ++ [O.dic KV, O.lst [.d Y0, .d Y1, .d Y2], O.lst NVL, O.lst ((pairD [(0, s0), (1, s1), (2, s2)]).map Val.d)]) := by
    simp only [cTuple, tupOf, lstOf, hd3, Option.map_some, mkTup_map]
  have gfin := fun (y : D) (u : Hh) => gc_d (x := y) (h := h) (t := u)
  have r1 : rg1 [.d (.int 3)] = some (0, 1, 3) := rfl
  have rv : rngV 0 1 3 = [.d (.int 0), .d (.int 1), .d (.int 2)] := rfl
  unfold paF paS stS
  generalize pairD [(0, s0), (1, s1), (2, s2)] = PB at *

  by_cases hb : (b0 || (b1 || b2)) = true
  · rw [if_pos hb]
    have hL : ∃ w, NVL = Val.d (.int ((if b0 = true then 0 else if b1 = true then 1 else 2 : Nat) : Int)) :: w := by
      rw [← hNL]
      cases b0 <;> cases b1 <;> cases b2 <;> first | exact absurd hb (by decide) | exact ⟨_, rfl⟩
    obtain ⟨w, hL⟩ := hL
    clear hNL
    subst hL
    generalize (if b0 = true then 0 else if b1 = true then 1 else 2 : Nat) = J at *
    have hg : ¬ ((w.length : Int) + 1 ≤ 0) := by omega
    have hg' : (0 : Int) < (w.length : Int) + 1 := by omega
    simp [-List.map_map, r1, rv, wipeE, lz, cd, gk, itOf, seqOf, lp, gp, hd1, ln, cn, gn, lv, gl, cLen, lenB, hd2, vGt, vIntB, hg, hg', truB, vIx, L2.atI, L2.ixN, mkTup, allD, z1, z2, gfin, stF]
  · rw [if_neg hb]
    have hL : NVL = [] := by
      rw [← hNL]
      cases b0 <;> cases b1 <;> cases b2 <;> first | exact absurd rfl hb | rfl
    clear hNL
    subst hL
    simp [-List.map_map, r1, rv, wipeE, lz, cd, gk, itOf, seqOf, lp, gp, hd1, ln, cn, gn, lv, gl, cLen, lenB, hd2, vGt, vIntB, truB, lq, cq, gm, mkTup, allD, z1, z2, z3, gfin, stF]
end
end Lw
namespace Lw
open PySem PySem.Spec Dq
def intV' (ds : List Int) : List Val := ds.map fun i => .d (.int i)
theorem gc_at {h t : Hh} {m : Nat} {o : O} (hm : h.length ≤ m) (e : (h ++ t)[m]? = some o) (ho : o.bel h.length = true) : gc h (.ok (.r m) (h ++ t)) = .ok (.r h.length) (h ++ [o]) := by
  rw [gc_ok (by simp), if_neg (by simp [Val.bel]; omega)]
  simp only [e, if_pos ho]
noncomputable def dI : Sv G :=
  (sT (qVal (o2 vGt (eVar 5) (eC (.int 0)))) (sSeq (sDrop (oM isLst vApp (eVar 2) (aCons (o2 vMod (eB cInt (aCons (eVar 5) aNil)) (eC (.int 1009))) aNil)))
    (sSet (o2 vDiv (eVar 5) (eC (.int 1009))) (gVar 5))) sNext)
noncomputable def dO : Sv G :=
  (sSeq (sSet (eB cAbs (aCons (eVar 4) aNil)) (gVar 5))
    (sSeq (sSet (o2 vMod (eB cInt (aCons (o2 vAdd (o2 vAdd (o2 vMul (eVar 3) (eC (.int 48271))) (eVar 5)) (eC (.int 11))) aNil)) (eC (.int 2147483647))) (gVar 3))
    (sT (qVal (o2 vGe (eVar 5) (o2 vPow (eC (.int 10)) (eC (.int 18))))) (sFor (iRange rg1 (aCons (eC (.int 60)) aNil)) (gVar 6) dI) (sDrop (oM isLst vApp (eVar 2) (aCons (o2 vMod (o2 vDiv (eB cInt (aCons (o2 vAdd (o2 vMul (eVar 3) (eC (.int 16807))) (eC (.int 5))) aNil)) (eC (.int 3))) (eC (.int 65521))) aNil))))))
noncomputable def dT : Sv G :=
  (sT (qVal (o2 vLt (eB cLen (aCons (eVar 2) aNil)) (eVar 1))) (sSeq (sSet (o2 vMod (eB cInt (aCons (o2 vAdd (o2 vAdd (o2 vMul (eVar 3) (eC (.int 69621))) (eVar 6)) (eC (.int 1))) aNil)) (eC (.int 2147483647))) (gVar 3))
    (sDrop (oM isLst vApp (eVar 2) (aCons (o2 vMod (o2 vDiv (eB cInt (aCons (eVar 3) aNil)) (eC (.int 7))) (eC (.int 65521))) aNil)))) sNext)
theorem dr_eq : b__law_draws =
  (sSeq (sSet (eGc (eLst aNil)) (gVar 2))
    (sSeq (sSet (eC (.int 7)) (gVar 3))
    (sSeq (sFor (iSeq (eGc (eSl (eVar 0) pNo (pSo (eC (.int 63)))))) (gVar 4) dO)
    (sSeq (sFor (iRange rg1 (aCons (eVar 1) aNil)) (gVar 6) dT)
    (sRet (eSl (eVar 2) pNo (pSo (eVar 1)))))))) := rfl
theorem iv_len (ds : List Int) : (intV' ds).length = ds.length := by unfold intV'; rw [List.length_map]
theorem iv_app (ds : List Int) (i : Int) : intV' ds ++ [.d (.int i)] = intV' (ds ++ [i]) := by unfold intV'; rw [List.map_append]; rfl
abbrev SQ (sc : Val) (s : Int) (x4 x5 x6 : Option Val) : Dq.Env := [some sc, some (.d (.int 70)), some (.r 0), some (.d (.int s)), x4, x5, x6]
theorem app0 {ds : List Int} {i : Int} {c : O} (hz : ds.length < 90000) : vApp (.r 0) [.d (.int i)] [.lst (intV' ds), c] = some (.d .non, [.lst (intV' (ds ++ [i])), c]) := by
  have hsl := sz
  have : (intV' ds).length < sizeLine := by rw [iv_len]; omega
  simp [vApp, this, iv_app]
theorem is0 {ds : List Int} {c : O} : isLst (.r 0) [.lst (intV' ds), c] = true := rfl
theorem l1009 : Nat.log2 1009 < 9000 := by decide
theorem inner {T : Tab G} {sc : Val} {s : Int} {x4 : Option Val} {c : O} : ∀ (n : Nat) (vs : List Val) (ds : List Int) (num : Int) (x6 : Option Val), vs.length = n → ds.length + n < 90000 →
    ∃ ds' num' y6, forGo (fun _ => True) (gVar 6) (dI T) vs (SQ sc s x4 (some (.d (.int num))) x6) [.lst (intV' ds), c] = .nx (SQ sc s x4 (some (.d (.int num'))) y6) [.lst (intV' ds'), c] ∧ ds'.length ≤ ds.length + n
  | 0, [], ds, num, x6, _, _ => ⟨ds, num, x6, x_forNil trivial, Nat.le_refl _⟩
  | n + 1, v :: vs, ds, num, x6, hl, hz => by
    have hl : vs.length = n := by simpa using hl
    by_cases hn : 0 < num
    · obtain ⟨ds', num', y6, e, l⟩ := inner (T := T) (sc := sc) (s := s) (x4 := x4) (c := c) n vs (ds ++ [num % 1009]) (num / 1009) (some v) hl (by rw [List.length_append, List.length_singleton]; omega)
      refine ⟨ds', num', y6, ?_, by rw [List.length_append, List.length_singleton] at l; omega⟩
      have a := app0 (ds := ds) (i := num % 1009) (c := c) (by omega)
      have st : dI T (SQ sc s x4 (some (.d (.int num))) (some v)) [.lst (intV' ds), c] = .nx (SQ sc s x4 (some (.d (.int (num / 1009)))) (some v)) [.lst (intV' (ds ++ [num % 1009])), c] := by
        simp [SQ, dI, vGt, vIntB, hn, is0, cInt, vMod, a, vDiv, l1009]
      have sg : gVar 6 v (SQ sc s x4 (some (.d (.int num))) x6) = some (SQ sc s x4 (some (.d (.int num))) (some v)) := rfl
      rw [x_forCons trivial]
      simp only [sg, st, e]
    · obtain ⟨ds', num', y6, e, l⟩ := inner (T := T) (sc := sc) (s := s) (x4 := x4) (c := c) n vs ds num (some v) hl (by omega)
      refine ⟨ds', num', y6, ?_, by omega⟩
      have st : dI T (SQ sc s x4 (some (.d (.int num))) (some v)) [.lst (intV' ds), c] = .nx (SQ sc s x4 (some (.d (.int num))) (some v)) [.lst (intV' ds), c] := by
        simp [SQ, dI, vGt, vIntB, hn]
      have sg : gVar 6 v (SQ sc s x4 (some (.d (.int num))) x6) = some (SQ sc s x4 (some (.d (.int num))) (some v)) := rfl
      rw [x_forCons trivial]
      simp only [sg, st, e]
theorem outer {T : Tab G} {sc : Val} {cells : List Int} : ∀ (rest done : List Int) (ds : List Int) (s : Int) (x4 x5 x6 : Option Val), done ++ rest = cells → 0 ≤ s → s < 2147483647 → ds.length + 60 * rest.length < 80000 →
    ∃ ds' s' y4 y5 y6, forGo (fun h' => h'[1]? = some (.lst (intV' cells))) (gVar 4) (dO T) (intV' rest) (SQ sc s x4 x5 x6) [.lst (intV' ds), .lst (intV' cells)] = .nx (SQ sc s' y4 y5 y6) [.lst (intV' ds'), .lst (intV' cells)] ∧ 0 ≤ s' ∧ s' < 2147483647 ∧ ds'.length < 80000
  | [], done, ds, s, x4, x5, x6, e, h0, h1, hz => ⟨ds, s, x4, x5, x6, x_forNil rfl, h0, h1, by simpa using hz⟩
  | c :: rest, done, ds, s, x4, x5, x6, e, h0, h1, hz => by
    rw [List.length_cons] at hz
    have e1 : intV' (c :: rest) = .d (.int c) :: intV' rest := rfl
    have m := fun h => mul_ok (h := h) (i := s) (j := 48271) (by unfold Sm; omega) (by unfold Sm; decide)
    generalize hnum : (if c < 0 then -c else c) = num
    generalize hs2 : (s * 48271 + num + 11) % 2147483647 = s2
    have hs2b : 0 ≤ s2 ∧ s2 < 2147483647 := by omega
    have pw : ∀ h, vPow (.d (.int 10)) (.d (.int 18)) h = some (.d (.int 1000000000000000000), h) := fun h => by
      simp only [vPow]
      rw [if_pos (by decide)]
      rfl
    by_cases hb : (1000000000000000000 : Int) ≤ num
    · obtain ⟨ds1, num1, y6, z1, l1⟩ := inner (T := T) (sc := sc) (s := s2) (x4 := some (.d (.int c))) (c := .lst (intV' cells)) 60 (rngV 0 1 60) ds num x6 (by unfold rngV; simp) (by omega)
      obtain ⟨ds', s', a4, a5, a6, z2, b1, b2, b3⟩ := outer (T := T) (sc := sc) rest (done ++ [c]) ds1 s2 (some (.d (.int c))) (some (.d (.int num1))) y6 (by simpa using e) hs2b.1 hs2b.2 (by omega)
      refine ⟨ds', s', a4, a5, a6, ?_, b1, b2, b3⟩
      have r1 : rg1 [.d (.int 60)] = some (0, 1, 60) := rfl
      have st : dO T (SQ sc s (some (.d (.int c))) x5 x6) [.lst (intV' ds), .lst (intV' cells)] = .nx (SQ sc s2 (some (.d (.int c))) (some (.d (.int num1))) y6) [.lst (intV' ds1), .lst (intV' cells)] := by
        simp only [SQ] at z1
        simp [SQ, dO, cAbs, hnum, m, vAdd, cInt, vMod, hs2, pw, vGe, vIntB, hb, r1, z1]
      have sg : gVar 4 (.d (.int c)) (SQ sc s x4 x5 x6) = some (SQ sc s (some (.d (.int c))) x5 x6) := rfl
      have hck : (fun h' : Hh => h'[1]? = some (O.lst (intV' cells))) [O.lst (intV' ds), O.lst (intV' cells)] := rfl
      rw [e1, x_forCons hck]
      simp only [sg, st, z2]
    · have m2 := fun h => mul_ok (h := h) (i := s2) (j := 16807) (by unfold Sm; omega) (by unfold Sm; decide)
      have l3 : Nat.log2 3 < 9000 := by decide
      have a := app0 (ds := ds) (i := (s2 * 16807 + 5) / 3 % 65521) (c := .lst (intV' cells)) (by omega)
      obtain ⟨ds', s', a4, a5, a6, z2, b1, b2, b3⟩ := outer (T := T) (sc := sc) rest (done ++ [c]) (ds ++ [(s2 * 16807 + 5) / 3 % 65521]) s2 (some (.d (.int c))) (some (.d (.int num))) x6 (by simpa using e) hs2b.1 hs2b.2 (by rw [List.length_append, List.length_singleton]; omega)
      refine ⟨ds', s', a4, a5, a6, ?_, b1, b2, b3⟩
      have st : dO T (SQ sc s (some (.d (.int c))) x5 x6) [.lst (intV' ds), .lst (intV' cells)] = .nx (SQ sc s2 (some (.d (.int c))) (some (.d (.int num))) x6) [.lst (intV' (ds ++ [(s2 * 16807 + 5) / 3 % 65521])), .lst (intV' cells)] := by
        simp [SQ, dO, cAbs, hnum, m, vAdd, cInt, vMod, hs2, pw, vGe, vIntB, hb, m2, vDiv, l3, is0, a]
      have sg : gVar 4 (.d (.int c)) (SQ sc s x4 x5 x6) = some (SQ sc s (some (.d (.int c))) x5 x6) := rfl
      have hck : (fun h' : Hh => h'[1]? = some (O.lst (intV' cells))) [O.lst (intV' ds), O.lst (intV' cells)] := rfl
      rw [e1, x_forCons hck]
      simp only [sg, st, z2]
theorem tail {T : Tab G} {sc : Val} {c : O} {x4 x5 : Option Val} : ∀ (n i : Nat) (ds : List Int) (s : Int) (x6 : Option Val), 0 ≤ s → s < 2147483647 → ds.length + n < 89000 → i + n = 70 → (i ≤ ds.length) →
    ∃ ds' s' y6, forGo (fun _ => True) (gVar 6) (dT T) ((List.range' i n).map fun j : Nat => Val.d (.int (0 + (j : Int) * 1))) (SQ sc s x4 x5 x6) [.lst (intV' ds), c] = .nx (SQ sc s' x4 x5 y6) [.lst (intV' ds'), c] ∧ 70 ≤ ds'.length
  | 0, i, ds, s, x6, _, _, _, hi, hd => ⟨ds, s, x6, x_forNil trivial, by omega⟩
  | n + 1, i, ds, s, x6, h0, h1, hz, hi, hd => by
    have e1 : (List.range' i (n + 1)).map (fun j : Nat => Val.d (.int (0 + (j : Int) * 1))) = .d (.int (0 + (i : Int) * 1)) :: (List.range' (i + 1) n).map fun j : Nat => Val.d (.int (0 + (j : Int) * 1)) := rfl
    have ln : cLen [.r 0] [.lst (intV' ds), c] = some (.d (.int ds.length), [.lst (intV' ds), c]) := by simp [cLen, lenB, iv_len]
    by_cases hb : ds.length < 70
    · have hb2 : (ds.length : Int) < 70 := by omega
      generalize hs2 : (s * 69621 + (0 + (i : Int) * 1) + 1) % 2147483647 = s2
      have hs2b : 0 ≤ s2 ∧ s2 < 2147483647 := by omega
      have m := fun h => mul_ok (h := h) (i := s) (j := 69621) (by unfold Sm; omega) (by unfold Sm; decide)
      have l7 : Nat.log2 7 < 9000 := by decide
      have a := app0 (ds := ds) (i := s2 / 7 % 65521) (c := c) (by omega)
      obtain ⟨ds', s', y6, z, b⟩ := tail (T := T) (sc := sc) (c := c) (x4 := x4) (x5 := x5) n (i + 1) (ds ++ [s2 / 7 % 65521]) s2 (some (.d (.int (0 + (i : Int) * 1)))) hs2b.1 hs2b.2 (by rw [List.length_append, List.length_singleton]; omega) (by omega) (by rw [List.length_append, List.length_singleton]; omega)
      refine ⟨ds', s', y6, ?_, b⟩
      rw [e1, x_forCons trivial]
      clear e1
      generalize (0 + (i : Int) * 1) = ii at *
      have st : dT T (SQ sc s x4 x5 (some (.d (.int ii)))) [.lst (intV' ds), c] = .nx (SQ sc s2 x4 x5 (some (.d (.int ii)))) [.lst (intV' (ds ++ [s2 / 7 % 65521])), c] := by
        simp [SQ, dT, ln, vLt, hb2, m, vAdd, cInt, vMod, hs2, vDiv, l7, is0, a]
      have sg : gVar 6 (.d (.int ii)) (SQ sc s x4 x5 x6) = some (SQ sc s x4 x5 (some (.d (.int ii)))) := rfl
      simp only [sg, st, z]
    · have hb2 : ¬ (ds.length : Int) < 70 := by omega
      obtain ⟨ds', s', y6, z, b⟩ := tail (T := T) (sc := sc) (c := c) (x4 := x4) (x5 := x5) n (i + 1) ds s (some (.d (.int (0 + (i : Int) * 1)))) h0 h1 (by omega) (by omega) (by omega)
      refine ⟨ds', s', y6, ?_, b⟩
      rw [e1, x_forCons trivial]
      clear e1
      generalize (0 + (i : Int) * 1) = ii at *
      have st : dT T (SQ sc s x4 x5 (some (.d (.int ii)))) [.lst (intV' ds), c] = .nx (SQ sc s x4 x5 (some (.d (.int ii)))) [.lst (intV' ds), c] := by
        simp [SQ, dT, ln, vLt, hb2]
      have sg : gVar 6 (.d (.int ii)) (SQ sc s x4 x5 x6) = some (SQ sc s x4 x5 (some (.d (.int ii)))) := rfl
      simp only [sg, st, z]
theorem cut63 (ns : List Int) (h : ns.length ≤ 63) : cutL (ns.map D.int) none (some 63) = ns.map D.int := by
  have hl : (ns.map D.int).length = ns.length := by simp
  show ((ns.map D.int).drop 0).take (min 63 (ns.map D.int).length - 0) = _
  rw [List.drop_zero, List.take_of_length_le]
  omega
theorem cutN (ds : List Int) (h : 70 ≤ ds.length) : cutL (intV' ds) none (some 70) = intV' (ds.take 70) := by
  have hl := iv_len ds
  show ((intV' ds).drop 0).take (min 70 (intV' ds).length - 0) = _
  rw [List.drop_zero, hl, show min 70 ds.length - 0 = 70 by omega]
  unfold intV'
  rw [List.map_take]
theorem p_draws {k : Nat} (ns : List Int) (h : ns.length ≤ 63) : ∃ ds : List Int, ds.length = 70 ∧ P (k + 1) .f__law_draws [.fz (ns.map .int), .d (.int 70)] [] = .ok (.r 0) [.lst (intV' ds)] := by
  obtain ⟨ds1, s1, a4, a5, a6, z1, b1, b2, b3⟩ := outer (T := P k) (sc := .fz (ns.map .int)) (cells := ns) ns [] [] 7 none none none rfl (by decide) (by decide) (by simp; omega)
  obtain ⟨ds2, s2, y6, z2, b4⟩ := tail (T := P k) (sc := .fz (ns.map .int)) (c := .lst (intV' ns)) (x4 := a4) (x5 := a5) 70 0 ds1 s1 a6 b1 b2 (by omega) rfl (by omega)
  refine ⟨ds2.take 70, by rw [List.length_take]; omega, ?_⟩
  have eN : rngV 0 1 70 = (List.range' 0 70).map fun j : Nat => Val.d (.int (0 + (j : Int) * 1)) := by unfold rngV; rw [List.range_eq_range']
  rw [← eN] at z2
  have g1 : gc [] (.ok (.r 0) [O.lst []]) = .ok (.r 0) [O.lst []] := gc_r0 (h := []) (u := []) rfl
  have sl : vSl (.fz (ns.map .int)) none (some 63) [O.lst []] = some (.r 1, [.lst [], .lst (intV' ns)]) := by
    simp only [vSl, cut63 ns h]
    simp [intV']
  have bel : O.bel 1 (.lst (intV' ns)) = true := by
    have := Dq.belAll_d 1 (ns.map D.int)
    rw [List.map_map] at this
    exact this
  have g2 : gc [O.lst []] (.ok (.r 1) [.lst [], .lst (intV' ns)]) = .ok (.r 1) [.lst [], .lst (intV' ns)] := gc_r0 (h := [O.lst []]) (u := []) bel
  have r1 : rg1 [.d (.int 70)] = some (0, 1, 70) := rfl
  have sl2 : vSl (.r 0) none (some 70) [O.lst (intV' ds2), O.lst (intV' ns)] = some (.r 2, [O.lst (intV' ds2), O.lst (intV' ns), O.lst (intV' (ds2.take 70))]) := by
    simp [vSl, cutN ds2 b4]
  have bel2 : O.bel 0 (.lst (intV' (ds2.take 70))) = true := by
    have := Dq.belAll_d 0 ((ds2.take 70).map D.int)
    rw [List.map_map] at this
    exact this
  have g3 : gc [] (.ok (.r 2) [O.lst (intV' ds2), O.lst (intV' ns), O.lst (intV' (ds2.take 70))]) = .ok (.r 0) [O.lst (intV' (ds2.take 70))] := gc_at (h := []) (t := [O.lst (intV' ds2), O.lst (intV' ns), O.lst (intV' (ds2.take 70))]) (Nat.zero_le _) rfl bel2
  have it : ∀ c, itOf (.r 1) [c, .lst (intV' ns)] = some ⟨intV' ns, fun h' => h'[1]? = some (.lst (intV' ns))⟩ := fun _ => rfl
  simp only [SQ] at z1 z2
  have z1' : forGo (fun h' => h'[1]? = some (.lst (intV' ns))) (gVar 4) (dO (P k)) (intV' ns) [some (.fz (ns.map .int)), some (.d (.int 70)), some (.r 0), some (.d (.int 7)), none, none, none] [.lst [], .lst (intV' ns)] = _ := z1
  show gc [] (fnR (b__law_draws (P k)) 7 _ []) = _
  rw [dr_eq]
  have z0 : (0 : Nat) ≤ sizeLine := Nat.zero_le _
  simp [fnR, startE, z0, g1, sl, g2, it, z1', r1, z2, sl2, g3]
end Lw
namespace Lw
open PySem PySem.Spec Dq
theorem ix_draw {ds : List Int} {n : Nat} {h : Hh} (hn : h[n]? = some (.lst (intV' ds))) (i : Nat) (hi : i < ds.length) : vIx (.r n) (.d (.int (i : Int))) h = some (.d (.int (ds.getD i 0)), h) := by
  refine ix_nat hn ?_
  unfold intV'
  rw [List.getElem?_map, List.getElem?_eq_getElem hi, List.getD_eq_getElem?_getD, List.getElem?_eq_getElem hi]
  rfl
theorem ix_abopq {i : Int} (h0 : 0 ≤ i) (h5 : i < 5) : ∃ x ∈ N5, ∀ H, vIx (.d (.str "abopq")) (.d (.int i)) H = some (.d (.str x), H) := by
  have hsl := sz
  have l5 : ("abopq" : Str).length = 5 := by decide +kernel
  have hz : ("abopq" : Str).length ≤ sizeLine := by omega
  have hi : i = 0 ∨ i = 1 ∨ i = 2 ∨ i = 3 ∨ i = 4 := by omega
  rcases hi with rfl | rfl | rfl | rfl | rfl
  · refine ⟨"a", by unfold N5; decide +kernel, fun H => ?_⟩
    show (if ("abopq" : Str).length ≤ sizeLine then (L2.atI ("abopq" : Str).cps.toList 0).map fun c => (Val.d (.str ⟨#[c]⟩), H) else none) = _
    rw [if_pos hz] <;> rfl
  · refine ⟨"b", by unfold N5; decide +kernel, fun H => ?_⟩
    show (if ("abopq" : Str).length ≤ sizeLine then (L2.atI ("abopq" : Str).cps.toList 1).map fun c => (Val.d (.str ⟨#[c]⟩), H) else none) = _
    rw [if_pos hz] <;> rfl
  · refine ⟨"o", by unfold N5; decide +kernel, fun H => ?_⟩
    show (if ("abopq" : Str).length ≤ sizeLine then (L2.atI ("abopq" : Str).cps.toList 2).map fun c => (Val.d (.str ⟨#[c]⟩), H) else none) = _
    rw [if_pos hz] <;> rfl
  · refine ⟨"p", by unfold N5; decide +kernel, fun H => ?_⟩
    show (if ("abopq" : Str).length ≤ sizeLine then (L2.atI ("abopq" : Str).cps.toList 3).map fun c => (Val.d (.str ⟨#[c]⟩), H) else none) = _
    rw [if_pos hz] <;> rfl
  · refine ⟨"q", by unfold N5; decide +kernel, fun H => ?_⟩
    show (if ("abopq" : Str).length ≤ sizeLine then (L2.atI ("abopq" : Str).cps.toList 4).map fun c => (Val.d (.str ⟨#[c]⟩), H) else none) = _
    rw [if_pos hz] <;> rfl
theorem ix_pq {i : Int} (h0 : 0 ≤ i) (h5 : i < 2) : ∃ x, (x = ("p" : Str) ∨ x = "q") ∧ ∀ H, vIx (.d (.str "pq")) (.d (.int i)) H = some (.d (.str x), H) := by
  have hsl := sz
  have l5 : ("pq" : Str).length = 2 := by decide +kernel
  have hz : ("pq" : Str).length ≤ sizeLine := by omega
  have hi : i = 0 ∨ i = 1 := by omega
  rcases hi with rfl | rfl
  · refine ⟨"p", .inl rfl, fun H => ?_⟩
    show (if ("pq" : Str).length ≤ sizeLine then (L2.atI ("pq" : Str).cps.toList 0).map fun c => (Val.d (.str ⟨#[c]⟩), H) else none) = _
    rw [if_pos hz] <;> rfl
  · refine ⟨"q", .inr rfl, fun H => ?_⟩
    show (if ("pq" : Str).length ≤ sizeLine then (L2.atI ("pq" : Str).cps.toList 1).map fun c => (Val.d (.str ⟨#[c]⟩), H) else none) = _
    rw [if_pos hz] <;> rfl
/-- a number of a list of numbers -/
theorem ix_pick (l : List Int) {i : Int} (h0 : 0 ≤ i) (hl : i < l.length) (hz : ∀ f ∈ l, f ≠ 0 ∧ Bd 30 f) : ∃ f, f ≠ 0 ∧ Bd 30 f ∧ ∀ (h : Hh), vIx (.r h.length) (.d (.int i)) (h ++ [O.lst (l.map fun f => .d (.int f))]) = some (.d (.int f), h ++ [O.lst (l.map fun f => .d (.int f))]) := by
  obtain ⟨j, rfl⟩ := Int.eq_ofNat_of_zero_le h0
  have hj : j < l.length := by omega
  refine ⟨l[j], (hz _ (List.getElem_mem hj)).1, (hz _ (List.getElem_mem hj)).2, fun h => ?_⟩
  refine ix_nat get_last ?_
  rw [List.getElem?_map, List.getElem?_eq_getElem hj]
  rfl
def one' (x : Str) (f : Int) : Str → Int := fun n => if n = x then f else 0
theorem fD_one' {c f : Int} {x : Str} (hx : x ∈ N5) (hf : f ≠ 0) : fD c (one' x f) = .tup [.int c, .tup [.tup [.str x, .int f]]] := by
  have e : nzs (one' x f) = [x] := by
    have h1 : nzs (one' x f) = nzs (one x) := List.filter_congr fun n _ => by
      unfold one' one
      by_cases h : n = x <;> simp [h, hf]
    rw [h1, nzs_one x hx]
  unfold fD
  rw [e]
  simp [pD, one']
def two' (y : Str) (f g : Int) : Str → Int := fun n => if n = "a" then f else if n = y then g else 0
theorem fD_two' {c f g : Int} {y : Str} (hy : y = ("p" : Str) ∨ y = "q") (hf : f ≠ 0) (hg : g ≠ 0) : fD c (two' y f g) = .tup [.int c, .tup [.tup [.str "a", .int f], .tup [.str y, .int g]]] := by
  have na : ¬ y = "a" := by rcases hy with rfl | rfl <;> decide +kernel
  have e : nzs (two' y f g) = [("a" : Str), y] := by
    have h1 : nzs (two' y f g) = nzs (two' y 1 1) := List.filter_congr fun n _ => by
      unfold two'
      by_cases h : n = "a"
      · simp [h, hf]
      · by_cases h2 : n = y
        · subst h2; simp [h, hg]
        · simp [h, h2]
    rw [h1]
    rcases hy with rfl | rfl
    · unfold nzs N5 two'; decide +kernel
    · unfold nzs N5 two'; decide +kernel
  unfold fD
  rw [e]
  simp [pD, two', na]
theorem p_law_form {k n : Nat} {ds : List Int} {h : Hh} (hn : h[n]? = some (.lst (intV' ds))) (hl : 5 ≤ ds.length) : ∃ f : At9, P (k + 1) .f__law_form [.r n] h = .ok (.d f.F) h ∧ Bd 30 f.c ∧ ∀ m, Bd 30 (f.v m) := by
  have hsl := sz
  have z1 : (1 : Nat) ≤ sizeLine := by omega
  have z2 : (2 : Nat) ≤ sizeLine := by omega
  have z3 : (3 : Nat) ≤ sizeLine := by omega
  have z4 : (4 : Nat) ≤ sizeLine := by omega
  have z5 : (5 : Nat) ≤ sizeLine := by omega
  have i0 : vIx (.r n) (.d (.int 0)) h = some (.d (.int (ds.getD 0 0)), h) := ix_draw hn 0 (by omega)
  have i1 : vIx (.r n) (.d (.int 1)) h = some (.d (.int (ds.getD 1 0)), h) := ix_draw hn 1 (by omega)
  have i2 : vIx (.r n) (.d (.int 2)) h = some (.d (.int (ds.getD 2 0)), h) := ix_draw hn 2 (by omega)
  have i3 : vIx (.r n) (.d (.int 3)) h = some (.d (.int (ds.getD 3 0)), h) := ix_draw hn 3 (by omega)
  have hlt : n < h.length := (List.getElem?_eq_some_iff.mp hn).1
  have up : ∀ (u : Hh), (h ++ u)[n]? = some (.lst (intV' ds)) := fun u => by
    rw [List.getElem?_append_left hlt]; exact hn
  have j2 : ∀ u : Hh, vIx (.r n) (.d (.int 2)) (h ++ u) = some (.d (.int (ds.getD 2 0)), h ++ u) := fun u => ix_draw (up u) 2 (by omega)
  have j3 : ∀ u : Hh, vIx (.r n) (.d (.int 3)) (h ++ u) = some (.d (.int (ds.getD 3 0)), h ++ u) := fun u => ix_draw (up u) 3 (by omega)
  have j4 : ∀ u : Hh, vIx (.r n) (.d (.int 4)) (h ++ u) = some (.d (.int (ds.getD 4 0)), h ++ u) := fun u => ix_draw (up u) 4 (by omega)
  generalize ds.getD 0 0 = d0 at *
  generalize ds.getD 1 0 = d1 at *
  generalize ds.getD 2 0 = d2 at *
  generalize ds.getD 3 0 = d3 at *
  generalize ds.getD 4 0 = d4 at *
  generalize hk : d0 % 5 = kd
  have hk0 : 0 ≤ kd := by omega
  generalize hm : d1 % 7 - 3 = nm
  have hm0 : Bd 30 nm := by unfold Bd; omega
  rw [P_s]
  simp only [bd, b__law_form, fnR, nF, startE]
  by_cases c0 : kd = 0
  · refine ⟨⟨nm, Z0⟩, ?_, hm0, fun m => bd0⟩
    unfold At9.F
    show _ = R.ok (Val.d (fD nm Z0)) h
    rw [fD_zero]
    simp [i0, i1, cInt, mod_ii, hk, c0, vSub, hm, vEq, eqB, scalD, D.eqv, mkTup, allD, z2, gc_d0]
  · have k0 : (kd == 0) = false := by simpa using c0
    by_cases c3 : kd < 3
    · obtain ⟨x, hx, ex⟩ := ix_abopq (i := d2 % 5) (by omega) (by omega)
      obtain ⟨f, f0, fb, ef⟩ := ix_pick [2, -2, 4, 6, -1] (i := d3 % 5) (by omega) (by show _ < (5 : Int); omega) (by unfold Bd; decide)
      simp only [List.map_cons, List.map_nil] at ef
      refine ⟨⟨nm, one' x f⟩, ?_, hm0, fun m => ?_⟩
      · unfold At9.F
        show _ = R.ok (Val.d (fD nm (one' x f))) h
        rw [fD_one' hx f0]
        have gfin := fun (y : D) (u : Hh) => gc_d (x := y) (h := h) (t := u)
        simp [i0, i1, i2, i3, j2, j3, cInt, mod_ii, hk, k0, c3, vSub, hm, vEq, eqB, scalD, D.eqv, mkTup, allD, z1, z2, z5, gc_d0, vLt, vIntB, ex, vNeg, ef, gfin]
      · show Bd 30 (one' x f m)
        unfold one'
        split
        · exact fb
        · exact bd0
    · obtain ⟨f, f0, fb, ef⟩ := ix_pick [2, 4, -6] (i := d2 % 3) (by omega) (by show _ < (3 : Int); omega) (by unfold Bd; decide)
      obtain ⟨g, g0, gb, eg⟩ := ix_pick [2, -4, 3, 8] (i := d4 % 4) (by omega) (by show _ < (4 : Int); omega) (by unfold Bd; decide)
      obtain ⟨y, hy, ey⟩ := ix_pq (i := d3 % 2) (by omega) (by omega)
      simp only [List.map_cons, List.map_nil] at ef eg
      have eg' := eg (h ++ [O.lst [.d (.int 2), .d (.int 4), .d (.int (-6))]])
      refine ⟨⟨nm, two' y f g⟩, ?_, hm0, fun m => ?_⟩
      · unfold At9.F
        show _ = R.ok (Val.d (fD nm (two' y f g))) h
        rw [fD_two' hy f0 g0]
        have gfin := fun (y : D) (u : Hh) => gc_d (x := y) (h := h) (t := u)
        simp only [List.append_assoc, List.cons_append, List.nil_append, List.length_append, List.length_cons, List.length_nil] at eg'
        simp [i0, i1, i2, i3, j2, j3, j4, cInt, mod_ii, hk, k0, c3, vSub, hm, vEq, eqB, scalD, D.eqv, mkTup, allD, z1, z2, z3, z4, z5, gc_d0, vLt, vIntB, ey, vNeg, ef, eg', gfin]
      · show Bd 30 (two' y f g m)
        unfold two'
        split
        · exact fb
        · split
          · exact gb
          · exact bd0
end Lw
namespace Dq
open PySem PySem.Spec
theorem srt2 (a b : D) : srtD [a, b] = if dle a b = true then [a, b] else [b, a] := by
  unfold srtD
  rw [List.mergeSort]
  simp [List.MergeSort.Internal.splitInTwo, List.merge, List.mergeSort]
  done
theorem sortD2 {n : Nat} {h : Hh} {a b : D} (hn : h[n]? = some (.lst [.d a, .d b])) (ok : sortOk [a, b] = true) : cSortD [.r n] h = some (.r h.length, h ++ [.lst ((if dle a b = true then [a, b] else [b, a]).map .d)]) := by
  unfold cSortD
  simp only [hn, allD, Option.map_some, Option.bind_some, if_pos ok, srt2]
end Dq
namespace Lw
open PySem PySem.Spec Dq
abbrev pr (x : Str) (i : Int) : D := .tup [.str x, .int i]
theorem so_po : sortOk [pr "p" 1, pr "o" (-1)] = true ∧ dle (pr "p" 1) (pr "o" (-1)) = false := by decide +kernel
theorem so_oq : sortOk [pr "o" 1, pr "q" (-1)] = true ∧ dle (pr "o" 1) (pr "q" (-1)) = true := by decide +kernel
theorem so_qp : sortOk [pr "q" 1, pr "p" (-1)] = true ∧ dle (pr "q" 1) (pr "p" (-1)) = false := by decide +kernel
theorem p_law_atoms {k n : Nat} {ds : List Int} {h : Hh} (hn : h[n]? = some (.lst (intV' ds))) (hl : 1 ≤ ds.length) : P (k + 1) .f__law_atoms [.r n] h = .ok (.d (.tup ((atms3 (1 + ds.getD 0 0 % 3)).map At9.D))) h := by
  have hsl := sz
  have z1' : (1 : Nat) < sizeLine := by omega
  have z0' : (0 : Nat) < sizeLine := by omega
  have z2' : (2 : Nat) < sizeLine := by omega
  have z1 : (1 : Nat) ≤ sizeLine := by omega
  have z2 : (2 : Nat) ≤ sizeLine := by omega
  have z3 : (3 : Nat) ≤ sizeLine := by omega
  have i0 : vIx (.r n) (.d (.int 0)) h = some (.d (.int (ds.getD 0 0)), h) := ix_draw hn 0 (by omega)
  generalize ds.getD 0 0 = d0 at *
  generalize hlow : 1 + d0 % 3 = low
  have e0 : At9.D (atm "p" "o" (-low)) = .tup [.str "least", .tup [.int (-low), .tup [pr "o" (-1), pr "p" 1]]] := by
    unfold At9.D atm aD fD
    rw [nz_po]
    simp [pD, pm, ne_op, pr]
  have e1 : At9.D (atm "o" "q" 0) = .tup [.str "least", .tup [.int 0, .tup [pr "o" 1, pr "q" (-1)]]] := by
    unfold At9.D atm aD fD
    rw [nz_oq]
    simp [pD, pm, ne_qo, pr]
  have e2 : At9.D (atm "q" "p" 0) = .tup [.str "least", .tup [.int 0, .tup [pr "p" (-1), pr "q" 1]]] := by
    unfold At9.D atm aD fD
    rw [nz_qp]
    simp [pD, pm, ne_pq, pr]
  have eA : (atms3 low).map At9.D = [At9.D (atm "p" "o" (-low)), At9.D (atm "o" "q" 0), At9.D (atm "q" "p" 0)] := rfl
  rw [eA, e0, e1, e2]
  rw [P_s]
  simp only [bd, b__law_atoms, fnR, nF, startE]
  have s0 := fun (H : Hh) => sortD2 (n := H.length) (h := H ++ [O.lst [.d (pr "p" 1), .d (pr "o" (-1))]]) get_last so_po.1
  have s1 := fun (H : Hh) => sortD2 (n := H.length) (h := H ++ [O.lst [.d (pr "o" 1), .d (pr "q" (-1))]]) get_last so_oq.1
  have s2 := fun (H : Hh) => sortD2 (n := H.length) (h := H ++ [O.lst [.d (pr "q" 1), .d (pr "p" (-1))]]) get_last so_qp.1
  rw [if_neg (by rw [so_po.2]; decide)] at s0
  rw [if_pos so_oq.2] at s1
  rw [if_neg (by rw [so_qp.2]; decide)] at s2
  have t0 := fun (a : List Val) => s0 (h ++ [O.lst a])
  have t1 := fun (a : List Val) => s1 (h ++ [O.lst a])
  have t2 := fun (a : List Val) => s2 (h ++ [O.lst a])
  simp only [List.append_assoc, List.cons_append, List.nil_append, List.length_append, List.length_cons, List.length_nil, List.map_cons, List.map_nil] at t0 t1 t2
  have gA : ∀ (a : List Val) (x : D) (u : Hh), gc (h ++ [O.lst a]) (.ok (.d x) (h ++ (O.lst a :: u))) = .ok (.d x) (h ++ [O.lst a]) := fun a x u => by
    have := gc_d (x := x) (h := h ++ [O.lst a]) (t := u)
    simpa using this
  have hd1 : ∀ (o p : O) (u : Hh), (h ++ (p :: o :: u))[h.length + 1]? = some o := fun o p u => by
    rw [List.getElem?_append_right (by omega)]
    simp
  have hd2 : ∀ (o p q : O) (u : Hh), (h ++ (q :: p :: o :: u))[h.length + 2]? = some o := fun o p q u => by
    rw [List.getElem?_append_right (by omega)]
    simp
  have hs0 : ∀ (a b : List Val) , (h ++ [O.lst a]).set h.length (.lst b) = h ++ [O.lst b] := fun a b => by
    rw [List.set_append_right _ _ (by omega)]
    simp
  have hs1 : ∀ (p : O) (a b : List Val) , (h ++ [p, O.lst a]).set (h.length + 1) (.lst b) = h ++ [p, O.lst b] := fun p a b => by
    rw [List.set_append_right _ _ (by omega)]
    simp
  have gfin := fun (y : D) (u : Hh) => gc_d (x := y) (h := h) (t := u)
  have en : ∀ (H : Hh), enumB2 (.d (.tup [.tup [.str "p", .str "o"], .tup [.str "o", .str "q"], .tup [.str "q", .str "p"]])) H = some ⟨[.d (.tup [.int 0, .tup [.str "p", .str "o"]]), .d (.tup [.int 1, .tup [.str "o", .str "q"]]), .d (.tup [.int 2, .tup [.str "q", .str "p"]])], fun _ => True⟩ := fun H => rfl
  have lr : lcGo h.length (fun _ => True) (gTupG 2 (gConsG (gVar 3) (gConsG (gTupG 2 (gConsG (gVar 4) (gConsG (gVar 5) gNilG))) gNilG))) [some (.r n), some (.d (.int low)), none, none, none, none, none] (qYes (G := G) (P k))
      (eGc (eTup (G := G) (aCons (eIf (qVal (o2 vEq (eVar 3) (eC (.int 0)))) (o1 vNeg (eVar 1)) (eC (.int 0))) (aCons (eB cTuple (aCons (eB cSortD (aCons (eLst (aCons (eTup (aCons (eVar 4) (aCons (eC (.int 1)) aNil))) (aCons (eTup (aCons (eVar 5) (aCons (o1 vNeg (eC (.int 1))) aNil))) aNil))) aNil)) aNil)) aNil))) (P k))
      [.d (.tup [.int 0, .tup [.str "p", .str "o"]]), .d (.tup [.int 1, .tup [.str "o", .str "q"]]), .d (.tup [.int 2, .tup [.str "q", .str "p"]])] (h ++ [O.lst []]) =
      some (h ++ [O.lst [.d (.tup [.int (-low), .tup [pr "o" (-1), pr "p" 1]]), .d (.tup [.int 0, .tup [pr "o" 1, pr "q" (-1)]]), .d (.tup [.int 0, .tup [pr "p" (-1), pr "q" 1]])]]) := by
    simp only [pr] at t0 t1 t2
    simp [x_lcCons, vEq, eqB, scalD, D.eqv, vNeg, mkTup, allD, z0', z1', z2', z1, z2, t0, t1, t2, cTuple, tupOf, lstOf, hd2, gA, hs0, pr]
  have gB : ∀ (l : List Val), gc h (.ok (.r h.length) (h ++ [O.lst l])) = .ok (.r h.length) (h ++ [O.lst l]) := fun l => gc_r1
  generalize pr "o" (-1) = q0 at *
  generalize pr "p" 1 = q1 at *
  generalize pr "o" 1 = q2 at *
  generalize pr "q" (-1) = q3 at *
  generalize pr "p" (-1) = q4 at *
  generalize pr "q" 1 = q5 at *
  simp [i0, cInt, mod_ii, add_ii, hlow, mkTup, allD, z0', z1', z2', z1, z2, z3, en, wipeE, lr, gB, itOf, x_lcCons, hd1, hs1, cTuple, tupOf, lstOf, gfin]
end Lw
namespace Dq
open PySem PySem.Spec
mutual
theorem eqv_refl : ∀ x : D, x.eqv x = true
  | .non => rfl
  | .bl b => by simp [D.eqv]
  | .int i => by simp [D.eqv]
  | .str s => by simp [D.eqv]
  | .tup xs => by rw [D.eqv]; exact eqvs_refl xs
theorem eqvs_refl : ∀ xs : List D, eqvs xs xs = true
  | [] => rfl
  | x :: xs => by rw [eqvs, eqv_refl x, eqvs_refl xs]; rfl
end
theorem ne_self {x : D} {h : Hh} (f : x.fit 64 = true) : vNe (.d x) (.d x) h = some (.d (.bl false), h) := by
  simp only [vNe, eqB]
  rw [if_pos (.inr ⟨f, f⟩), eqv_refl]
  rfl
theorem cut_from {α : Type} (vs : List α) (i : Nat) (hi : i ≤ vs.length) : cutL vs (some (i : Int)) none = vs.drop i := by
  have e : HT.sIx vs.length 0 (some (i : Int)) = i := by
    unfold HT.sIx
    simp
    rw [if_neg (by omega)]
    omega
  have e2 : HT.sIx vs.length vs.length none = vs.length := by unfold HT.sIx; simp
  unfold cutL
  rw [e, e2, List.take_of_length_le]
  rw [List.length_drop]
  exact Nat.le_refl _
end Dq
namespace Lw
open PySem PySem.Spec Dq
theorem sl_from {ds : List Int} {h : Hh} {n i : Nat} (hn : h[n]? = some (.lst (intV' ds))) (hi : i ≤ ds.length) : vSl (.r n) (some (i : Int)) none h = some (.r h.length, h ++ [.lst (intV' (ds.drop i))]) := by
  unfold vSl
  simp only [hn]
  rw [cut_from _ _ (by rw [iv_len]; exact hi)]
  unfold intV'
  rw [List.map_drop]
theorem nm3_qpo : Nm3 "q" "p" "o" := ⟨by decide +kernel, by decide +kernel, by decide +kernel, by decide +kernel, by decide +kernel⟩
theorem nm3_oqp : Nm3 "o" "q" "p" := ⟨by decide +kernel, by decide +kernel, by decide +kernel, by decide +kernel, by decide +kernel⟩
theorem nm3_pqo : Nm3 "p" "q" "o" := ⟨by decide +kernel, by decide +kernel, by decide +kernel, by decide +kernel, by decide +kernel⟩
theorem nm3_opq : Nm3 "o" "p" "q" := ⟨by decide +kernel, by decide +kernel, by decide +kernel, by decide +kernel, by decide +kernel⟩
theorem ix_names {i : Int} (h0 : 0 ≤ i) (h4 : i < 4) : ∃ n0 n1 n2, Nm3 n0 n1 n2 ∧ ∀ H, vIx (.d (.tup [.tup [.str "q", .str "p", .str "o"], .tup [.str "o", .str "q", .str "p"], .tup [.str "p", .str "q", .str "o"], .tup [.str "o", .str "p", .str "q"]])) (.d (.int i)) H = some (.d (.tup ([n0, n1, n2].map D.str)), H) := by
  have hi : i = 0 ∨ i = 1 ∨ i = 2 ∨ i = 3 := by omega
  rcases hi with rfl | rfl | rfl | rfl
  · exact ⟨_, _, _, nm3_qpo, fun H => rfl⟩
  · exact ⟨_, _, _, nm3_oqp, fun H => rfl⟩
  · exact ⟨_, _, _, nm3_pqo, fun H => rfl⟩
  · exact ⟨_, _, _, nm3_opq, fun H => rfl⟩
section
variable {low : Int} (hl : 0 < low) (hl3 : low ≤ 3)
include hl hl3
theorem fin_rf {k : Nat} {sel : Str → At9} (hs : Small sel) {h : Hh} : P (k + 8) .f_refutation_fault [.d (.tup (N5.map D.str)), .d .non, .d (.tup ((rows3 low sel).map At9.D)), .d (paper3 low sel)] h = .ok (.d .non) h := by
  have lb := low_bd hl hl3
  have cs := rCs hs lb
  have cs0 := rCs hs bd0
  have vs := rVs hs
  have hn : ∀ a ∈ rows3 low sel, ∀ n ∈ nzs a.v, n ∈ N5 := fun a _ n hn => (nzs_mem.mp hn).1
  have l5 : N5.length ≤ 5 := by unfold N5; decide
  unfold paper3
  by_cases hN : (rows3 low sel).any nvr = true
  · rw [if_pos hN]
    refine p_rfF (fun n h => h) n5_nodup l5 hn (by show 3 ≤ 9; decide) ?_
    unfold rows3 at hN ⊢
    generalize row "p" "o" (-low) sel = R0 at *
    generalize row "o" "q" 0 sel = R1 at *
    generalize row "q" "p" 0 sel = R2 at *
    unfold fst3
    by_cases h0 : nvr R0 = true
    · rw [if_pos h0]
      show some (Val.d R0.D) = _
      rw [nvr_iff.mp h0]
    · rw [if_neg h0]
      by_cases h1 : nvr R1 = true
      · rw [if_pos h1]
        show some (Val.d R1.D) = _
        rw [nvr_iff.mp h1]
      · rw [if_neg h1]
        have h2 : nvr R2 = true := by simpa [h0, h1] using hN
        show some (Val.d R2.D) = _
        rw [nvr_iff.mp h2]
  · rw [if_neg hN]
    have hN : (rows3 low sel).any nvr = false := by simpa using hN
    exact p_rfS (fun n h => h) n5_nodup l5 hn
        (getD3 (p := fun a => a.c) (nC_bd (cs.1.mono (by decide)) (by decide)) (nC_bd (cs0.2.1.mono (by decide)) (by decide)) (nC_bd (cs0.2.2.mono (by decide)) (by decide)))
        (fun i m => getD3 (p := fun a => a.v m) ((nV_bd (fun n => (vs n).1) m).mono (by decide)) ((nV_bd (fun n => (vs n).2.1) m).mono (by decide)) ((nV_bd (fun n => (vs n).2.2) m).mono (by decide)) i)
        ((sC_bd (fun n => (vs n).1) (by decide)).mono (by decide)) ((sC_bd (fun n => (vs n).2.1) (by decide)).mono (by decide)) ((sC_bd (fun n => (vs n).2.2) (by decide)).mono (by decide))
        (sC_pos _) (sC_pos _) (sC_pos _) (sum_never hl hN)
end
theorem fit_told {low : Int} {sel : Str → At9} : (D.tup [.tup ((rows3 low sel).map At9.D), paper3 low sel]).fit 64 = true := by
  have l1 : PyData.strOk ("sum" : Str) = true := by decide +kernel
  have l2 : PyData.strOk ("false" : Str) = true := by decide +kernel
  have f1 : (D.tup ((rows3 low sel).map At9.D)).fit 63 = true := fits_at 58 _
  have f2 : (paper3 low sel).fit 63 = true := by
    unfold paper3
    split
    · simp [paF, stF, D.fit, fits, l2]
    · simp [paS, stS, pairD, stF, D.fit, fits, l1, l2]
  show ((D.tup ((rows3 low sel).map At9.D)).fit 63 && ((paper3 low sel).fit 63 && true)) = true
  rw [f1, f2]
  rfl
end Lw
namespace Lw
open PySem PySem.Spec Dq
noncomputable def lawB : Sv G :=
  (sSeq (sSet (o2 vIx (eTup (aCons (eTup (aCons (eC (.str ("q" : Str))) (aCons (eC (.str ("p" : Str))) (aCons (eC (.str ("o" : Str))) aNil)))) (aCons (eTup (aCons (eC (.str ("o" : Str))) (aCons (eC (.str ("q" : Str))) (aCons (eC (.str ("p" : Str))) aNil)))) (aCons (eTup (aCons (eC (.str ("p" : Str))) (aCons (eC (.str ("q" : Str))) (aCons (eC (.str ("o" : Str))) aNil)))) (aCons (eTup (aCons (eC (.str ("o" : Str))) (aCons (eC (.str ("p" : Str))) (aCons (eC (.str ("q" : Str))) aNil)))) aNil))))) (o2 vMod (eB cInt (aCons (o2 vIx (eVar 1) (eVar 3)) aNil)) (eC (.int 4)))) (gVar 4))
    (sSeq (sSet (eGc (eFn (G := G) .f__law_atoms (aCons (eSl (eVar 1) (pSo (o2 vAdd (eC (.int 5)) (o2 vMul (eC (.int 4)) (eVar 3)))) pNo) aNil))) (gVar 5))
    (sSeq (sT (qGc (qVal (o2 vNotN (eFn (G := G) .f_refutation_fault (aCons (eVar 4) (aCons (eC .non) (aCons (eVar 5) (aCons (eVar 2) aNil))))) (eC .non)))) (sRet (eC (.bl false))) sNext)
    (sSeq (sSet (eGc (eB cTuple (aCons (eLc (iRange rg1 (aCons (eC (.int 3)) aNil)) (gVar 8) qYes (eGc (eFn (G := G) .f__law_form (aCons (eSl (eVar 1) (pSo (o2 vAdd (o2 vAdd (eC (.int 25)) (o2 vMul (eC (.int 6)) (eVar 3))) (o2 vMul (eC (.int 5)) (eVar 8)))) pNo) aNil))) [8]) aNil))) (gVar 6))
    (sSeq (sSet (eFn (G := G) .f_refutation_called (aCons (eVar 4) (aCons (eVar 5) (aCons (eVar 2) (aCons (eVar 6) aNil))))) (gVar 7))
    (sT (qGc (qOr (qVal (o2 vNe (eVar 7) (eFn (G := G) .f__law_due (aCons (eVar 4) (aCons (eVar 5) (aCons (eVar 6) aNil)))))) (qVal (o2 vNotN (eFn (G := G) .f_refutation_fault (aCons (eTup (aCons (eC (.str ("a" : Str))) (aCons (eC (.str ("b" : Str))) (aCons (eC (.str ("o" : Str))) (aCons (eC (.str ("p" : Str))) (aCons (eC (.str ("q" : Str))) aNil)))))) (aCons (eC .non) (aCons (o2 vIx (eVar 7) (eC (.int 0))) (aCons (o2 vIx (eVar 7) (eC (.int 1))) aNil))))) (eC .non))))) (sRet (eC (.bl false))) sNext))))))
theorem law_eq : b_law =
  (sSeq (sSet (eFn (G := G) .f__law_draws (aCons (eVar 0) (aCons (eC (.int 70)) aNil))) (gVar 1))
    (sSeq (sSet (eTup (aCons (eTup (aCons (eC (.str ("sum" : Str))) (aCons (eTup (aCons (eTup (aCons (eC (.int 0)) (aCons (eC (.int 1)) aNil))) (aCons (eTup (aCons (eC (.int 1)) (aCons (eC (.int 1)) aNil))) (aCons (eTup (aCons (eC (.int 2)) (aCons (eC (.int 1)) aNil))) aNil)))) aNil))) (aCons (eTup (aCons (eC (.str ("false" : Str))) (aCons (eC (.int 3)) aNil))) aNil))) (gVar 2))
    (sSeq (sFor (iRange rg1 (aCons (eC (.int 5)) aNil)) (gVar 3) lawB)
    (sRet (eC (.bl true)))))) := rfl
/-- one turn -/
theorem law_turn {k t : Nat} {sc x4 x5 x6 x7 x8 : Option Val} {ds : List Int} (hd : ds.length = 70) (ht : t < 5) : ∃ y4 y5 y6 y7 y8, lawB (P (k + 9)) [sc, some (.r 0), some (.d (paS 1 1 1)), some (.d (.int (t : Int))), x4, x5, x6, x7, x8] [O.lst (intV' ds)] = .nx [sc, some (.r 0), some (.d (paS 1 1 1)), some (.d (.int (t : Int))), y4, y5, y6, y7, y8] [O.lst (intV' ds)] := by
  have hsl := sz
  have z0' : (0 : Nat) < sizeLine := by omega
  have z1' : (1 : Nat) < sizeLine := by omega
  have z2' : (2 : Nat) < sizeLine := by omega
  have z2 : (2 : Nat) ≤ sizeLine := by omega
  have z3 : (3 : Nat) ≤ sizeLine := by omega
  have z4 : (4 : Nat) ≤ sizeLine := by omega
  have z5 : (5 : Nat) ≤ sizeLine := by omega
  have h0 : ([O.lst (intV' ds)] : Hh)[0]? = some (.lst (intV' ds)) := rfl
  have h00 : ∀ u : Hh, (O.lst (intV' ds) :: u)[0]? = some (.lst (intV' ds)) := fun u => rfl
  have it := ix_draw h0 t (by omega)
  obtain ⟨n0, n1, n2, N, en⟩ := ix_names (i := ds.getD t 0 % 4) (by omega) (by omega)
  have e1 : (5 : Int) + 4 * (t : Int) = ((5 + 4 * t : Nat) : Int) := by omega
  have s1 := sl_from h0 (i := 5 + 4 * t) (by omega)
  have l1 : 1 ≤ (ds.drop (5 + 4 * t)).length := by rw [List.length_drop]; omega
  have pa := p_law_atoms (k := k + 8) (n := 1) (ds := ds.drop (5 + 4 * t)) (h := [O.lst (intV' ds), O.lst (intV' (ds.drop (5 + 4 * t)))]) rfl l1
  have hl : 0 < 1 + (ds.drop (5 + 4 * t)).getD 0 0 % 3 := by omega
  have hl3 : 1 + (ds.drop (5 + 4 * t)).getD 0 0 % 3 ≤ 3 := by omega
  generalize 1 + (ds.drop (5 + 4 * t)).getD 0 0 % 3 = low at pa hl hl3
  have rf := own_rf (k := k + 1) hl hl3 N (h := [O.lst (intV' ds)])
  have fm : ∀ (a : List Val) (j : Nat), j < 3 → ∃ f : At9, P (k + 9) .f__law_form [.r 2] [O.lst (intV' ds), O.lst a, O.lst (intV' (ds.drop (25 + 6 * t + 5 * j)))] = .ok (.d f.F) [O.lst (intV' ds), O.lst a, O.lst (intV' (ds.drop (25 + 6 * t + 5 * j)))] ∧ Bd 30 f.c ∧ ∀ m, Bd 30 (f.v m) := fun a j hj => p_law_form (k := k + 8) rfl (by rw [List.length_drop]; omega)
  obtain ⟨f0, pf0, c0, v0⟩ := fm [] 0 (by omega)
  obtain ⟨f1, pf1, c1, v1⟩ := fm [.d f0.F] 1 (by omega)
  obtain ⟨f2, pf2, c2, v2⟩ := fm [.d f0.F, .d f1.F] 2 (by omega)
  have hs : Small (sel3 n0 n1 f0 f1 f2) := fun n => by
    unfold sel3
    split
    · exact ⟨c0, v0⟩
    · split
      · exact ⟨c1, v1⟩
      · exact ⟨c2, v2⟩
  have rc := p_rc (k := k) hl hl3 N hs (h := [O.lst (intV' ds)])
  have du := p_law_due (k := k) hl hl3 N hs (h := [O.lst (intV' ds)])
  have ne := ne_self (h := [O.lst (intV' ds)]) (fit_told (low := low) (sel := sel3 n0 n1 f0 f1 f2))
  have fin := fin_rf (k := k + 1) hl hl3 hs (h := [O.lst (intV' ds)])
  have sf : ∀ (a : List Val) (j : Nat), j < 3 → vSl (.r 0) (some ((25 + 6 * t + 5 * j : Nat) : Int)) none [O.lst (intV' ds), O.lst a] = some (.r 2, [O.lst (intV' ds), O.lst a, O.lst (intV' (ds.drop (25 + 6 * t + 5 * j)))]) := fun a j hj => sl_from (n := 0) (h := [O.lst (intV' ds), O.lst a]) rfl (by omega)
  have sf0 := sf [] 0 (by omega)
  have sf1 := sf [.d f0.F] 1 (by omega)
  have sf2 := sf [.d f0.F, .d f1.F] 2 (by omega)
  have g0 : (((25 + 6 * t + 5 * 0 : Nat) : Int)) = 25 + 6 * (t : Int) := by omega
  have g1 : (((25 + 6 * t + 5 * 1 : Nat) : Int)) = 25 + 6 * (t : Int) + 5 := by omega
  have g2 : (((25 + 6 * t + 5 * 2 : Nat) : Int)) = 25 + 6 * (t : Int) + 10 := by omega
  rw [g0] at sf0
  rw [g1] at sf1
  rw [g2] at sf2
  rw [← e1] at s1
  have eF : [f0, f1, f2].map At9.F = [f0.F, f1.F, f2.F] := rfl
  rw [eF] at rc du
  generalize f0.F = F0 at *
  generalize f1.F = F1 at *
  generalize f2.F = F2 at *
  have e5 : N5.map D.str = [.str "a", .str "b", .str "o", .str "p", .str "q"] := rfl
  rw [e5] at fin
  generalize (rows3 low (sel3 n0 n1 f0 f1 f2)).map At9.D = RW at *
  generalize paper3 low (sel3 n0 n1 f0 f1 f2) = PP at *
  generalize (atms3 low).map At9.D = AT at *
  generalize [n0, n1, n2].map D.str = NL at *
  generalize paS 1 1 1 = PA at *
  generalize intV' (ds.drop (5 + 4 * t)) = L1 at *
  generalize intV' (ds.drop (25 + 6 * t + 5 * 0)) = K0 at *
  generalize intV' (ds.drop (25 + 6 * t + 5 * 1)) = K1 at *
  generalize intV' (ds.drop (25 + 6 * t + 5 * 2)) = K2 at *
  have m4 := fun h => mul_ok (h := h) (i := 4) (j := (t : Int)) (by unfold Sm; decide) (by unfold Sm; omega)
  have m6 := fun h => mul_ok (h := h) (i := 6) (j := (t : Int)) (by unfold Sm; decide) (by unfold Sm; omega)
  have m50 := fun h => mul_ok (h := h) (i := 5) (j := 0) (by unfold Sm; decide) (by unfold Sm; decide)
  have m51 := fun h => mul_ok (h := h) (i := 5) (j := 1) (by unfold Sm; decide) (by unfold Sm; decide)
  have m52 := fun h => mul_ok (h := h) (i := 5) (j := 2) (by unfold Sm; decide) (by unfold Sm; decide)
  generalize intV' ds = DS at *
  have gA := fun (x : D) (u : Hh) => gc_d (x := x) (h := [O.lst DS]) (t := u)
  have gC := fun (x : D) (a : List Val) (u : Hh) => gc_d (x := x) (h := [O.lst DS, O.lst a]) (t := u)
  simp only [List.cons_append, List.nil_append] at gA gC
  have gB := fun (x : Bool) => gcB_ok0 (b := x) (h := [O.lst DS])
  have r1 : rg1 [.d (.int 3)] = some (0, 1, 3) := rfl
  have rv : rngV 0 1 3 = [.d (.int 0), .d (.int 1), .d (.int 2)] := rfl
  have ix0 : ∀ H, vIx (.d (.tup [.tup RW, PP])) (.d (.int 0)) H = some (.d (.tup RW), H) := fun H => rfl
  have ix1 : ∀ H, vIx (.d (.tup [.tup RW, PP])) (.d (.int 1)) H = some (.d PP, H) := fun H => rfl
  refine ⟨some (.d (.tup NL)), some (.d (.tup AT)), some (.d (.tup [F0, F1, F2])), some (.d (.tup [.tup RW, PP])), x8, ?_⟩
  simp only [List.length_cons, List.length_nil] at *
  generalize ds.getD t 0 = dt at *
  generalize (t : Int) = ti at *
  simp [-List.map_map, lawB, it, cInt, mod_ii, add_ii, mkTup, allD, z2, z3, z4, z5, en, m4, m6, m50, m51, m52, s1, psF, pa, gA, rf, vNotN, Val.isNon, truB, gB, r1, rv, wipeE, x_lcCons, sf0, sf1, sf2, pf0, pf1, pf2, gC, z0', z1', z2', cTuple, tupOf, lstOf, rc, du, ne, ix0, ix1, fin]
theorem law_loop {k : Nat} {sc : Option Val} {ds : List Int} (hd : ds.length = 70) : ∀ (n i : Nat) (x3 x4 x5 x6 x7 x8 : Option Val), i + n = 5 → ∃ y3 y4 y5 y6 y7 y8, forGo (fun _ => True) (gVar 3) (lawB (P (k + 9))) ((List.range' i n).map fun j : Nat => Val.d (.int (0 + (j : Int) * 1))) [sc, some (.r 0), some (.d (paS 1 1 1)), x3, x4, x5, x6, x7, x8] [O.lst (intV' ds)] = .nx [sc, some (.r 0), some (.d (paS 1 1 1)), y3, y4, y5, y6, y7, y8] [O.lst (intV' ds)]
  | 0, i, x3, x4, x5, x6, x7, x8, _ => ⟨_, _, _, _, _, _, x_forNil trivial⟩
  | n + 1, i, x3, x4, x5, x6, x7, x8, hi => by
    have e1 : (List.range' i (n + 1)).map (fun j : Nat => Val.d (.int (0 + (j : Int) * 1))) = .d (.int (0 + (i : Int) * 1)) :: (List.range' (i + 1) n).map fun j : Nat => Val.d (.int (0 + (j : Int) * 1)) := rfl
    have ei : (0 : Int) + (i : Int) * 1 = (i : Int) := by omega
    obtain ⟨y4, y5, y6, y7, y8, st⟩ := law_turn (k := k) (t := i) (sc := sc) (x4 := x4) (x5 := x5) (x6 := x6) (x7 := x7) (x8 := x8) hd (by omega)
    obtain ⟨w3, w4, w5, w6, w7, w8, z⟩ := law_loop (k := k) (sc := sc) hd n (i + 1) (some (.d (.int (i : Int)))) y4 y5 y6 y7 y8 (by omega)
    refine ⟨w3, w4, w5, w6, w7, w8, ?_⟩
    have sg : gVar 3 (.d (.int (i : Int))) [sc, some (.r 0), some (.d (paS 1 1 1)), x3, x4, x5, x6, x7, x8] = some [sc, some (.r 0), some (.d (paS 1 1 1)), some (.d (.int (i : Int))), x4, x5, x6, x7, x8] := rfl
    rw [e1, ei, x_forCons trivial]
    simp only [sg, st, z]
theorem p_law (ns : List Int) (h : ns.length ≤ 63) : ∃ h', Pl G bd nF 100 .f_law [.fz (ns.map .int)] [] = .ok (.d (.bl true)) h' := by
  have hsl := sz
  have z2 : (2 : Nat) ≤ sizeLine := by omega
  have z3 : (3 : Nat) ≤ sizeLine := by omega
  obtain ⟨ds, hd, pd⟩ := p_draws (k := 98) ns h
  obtain ⟨w3, w4, w5, w6, w7, w8, lo⟩ := law_loop (k := 90) (sc := some (.fz (ns.map .int))) hd 5 0 none none none none none none rfl
  have e5 : rngV 0 1 5 = (List.range' 0 5).map fun j : Nat => Val.d (.int (0 + (j : Int) * 1)) := by unfold rngV; rw [List.range_eq_range']
  rw [← e5] at lo
  have r1 : rg1 [.d (.int 5)] = some (0, 1, 5) := rfl
  refine ⟨[], ?_⟩
  have gfin := gc_d (x := .bl true) (h := []) (t := [O.lst (intV' ds)])
  rw [List.nil_append] at gfin
  show gc [] (fnR (b_law (P 99)) 9 _ []) = _
  rw [law_eq]
  generalize hP : P 99 = T at *
  have pd' : T .f__law_draws [.fz (ns.map .int), .d (.int 70)] [] = .ok (.r 0) [.lst (intV' ds)] := pd
  have lo' : forGo (fun _ => True) (gVar 3) (lawB T) (rngV 0 1 5) [some (.fz (ns.map .int)), some (.r 0), some (.d (paS 1 1 1)), none, none, none, none, none, none] [O.lst (intV' ds)] = .nx [some (.fz (ns.map .int)), some (.r 0), some (.d (paS 1 1 1)), w3, w4, w5, w6, w7, w8] [O.lst (intV' ds)] := lo
  have eP : paS 1 1 1 = .tup [.tup [.str "sum", .tup [.tup [.int 0, .int 1], .tup [.int 1, .int 1], .tup [.int 2, .int 1]]], .tup [.str "false", .int 3]] := rfl
  rw [eP] at lo'
  simp [-List.map_map, fnR, startE, psF, pd', mkTup, allD, z2, z3, r1, lo', gfin]
end Lw
namespace Lw
open PySem PySem.Spec PyProof.Rows L2 Dq
def fa : List He.Fa := ([.glo "is_whole", .glo "ascends", .glo "is_name", .glo "is_integer", .glo "is_form", .glo "constant", .glo "named", .glo "combined", .glo "names_by", .glo "put_by", .glo "divisor", .glo "normal_of", .glo "is_atom", .glo "best_of", .glo "check_names", .glo "_check_box", .glo "check_over", .glo "bounds_by", .glo "sum_of", .glo "_are_pairs", .glo "_is_step", .glo "_is_paper", .glo "pushed_bounds", .glo "beyond", .glo "is_better", .glo "is_never", .glo "halves", .glo "fault_by", .glo "refutation_fault", .glo "are_sums"] : List He.Fa) ++ ([.glo "_scale", .glo "_called", .glo "refutation_called", .glo "_law_draws", .glo "_law_put", .glo "_law_divisor", .glo "_law_normal", .glo "_law_atoms", .glo "_law_form", .glo "_law_scale", .glo "_law_due", .glo "law", .glo "PathError", .glo "BadBox", .glo "BadNames", .glo "BadAtoms", .glo "BadForms", .glo "BadRefutation", .exc "PathError", .exc "BadBox", .exc "BadNames", .exc "BadAtoms", .exc "BadForms", .exc "BadRefutation", .free "abs", .free "all", .free "any", .free "len", .free "sorted", .free "zip"] : List He.Fa) ++ ([.free "range", .free "tuple", .free "list", .free "dict", .free "isinstance", .free "int", .free "str", .free "max", .free "min", .free "enumerate", .free "bool", .glo "Reading", .cls "Reading", .meth "Reading" "_is_right", .meth "Reading" "fault", .mkr "Reading", .noat "Reading" "bounds", .noat "Reading" "atoms"] : List He.Fa)
abbrev R : PySem.W.OpenRow := PySem.W.OpenLaw.row PySem.Challenge.rw_pathstrue_k09_refutations_called_over_th
def ts : List He.Tab := tabsH G.tbs
def ex : PySem.W.Frag → Bool := exC G.cns G.tbs
abbrev hk : PySem.W.Hook := He.hookX 5 fa fn ts [] ex
def ob (s : PySem.W.SharedT) : He.AlX := He.obsX 5 fa fn ts [] ex (HandSHeadRun.getT s)
theorem ob_eq (s : PySem.W.SharedT) : ob s = hk.obs s.abs := He.obsX_eq (HandSHeadRun.getT_eq s)
def loose : List PySem.Str := (["PathError", "BadBox", "BadNames", "BadAtoms", "BadForms", "BadRefutation", "LETTERS", "KEPT", "MOST_NAME", "FORM", "is_whole", "ascends", "is_name", "MOST_PARTS", "is_integer", "is_form", "constant", "named", "combined", "names_by", "put_by", "LEAST", "MOST", "TRUE", "NEVER", "divisor", "normal_of", "is_atom", "best_of", "MOST_NAMES"] : List PySem.Str) ++ (["MOST_ATOMS", "MOST_SIDE", "MOST_SPLITS", "SIDES", "STEPS", "ENDS", "check_names", "_check_box", "check_over", "bounds_by", "sum_of", "_are_pairs", "_is_step", "_is_paper", "pushed_bounds", "beyond", "is_better", "is_never", "halves", "Reading", "fault_by", "refutation_fault", "SUM", "FALSE", "are_sums", "_scale", "_called", "refutation_called", "_law_draws", "_law_put"] : List PySem.Str) ++ (["_law_divisor", "_law_normal", "_law_atoms", "_law_form", "_law_scale", "_law_due"] : List PySem.Str)
def lawI : Nat := 73
theorem run (w : World) : HandSHeadRun.RunEq R (PySem.W.view R.prog [73]) hk ob 20000 loose w :=
  PySem.W.byRow2 "special-get-raises" (P := fun w => HandSHeadRun.RunEq R (PySem.W.view R.prog [73]) hk ob 20000 loose w) (fun w => by intro os; kernel_rfl) (fun w => by intro os; kernel_rfl) w
end Lw
open PySem PySem.W PySem.Calls PyProof.Rows
theorem PySem.Challenge.cw_pathstrue_k09_refutations_called_over_th_holds : PySem.Challenge.rw_pathstrue_k09_refutations_called_over_th.Holds := by
  w_on; o_law
  refine HandSHeadRun.head_any (r := OpenLaw.row PySem.Challenge.rw_pathstrue_k09_refutations_called_over_th) (q := view (OpenLaw.row PySem.Challenge.rw_pathstrue_k09_refutations_called_over_th).prog [Lw.lawI]) (H := Lw.hk) (ob := Lw.ob) (M := 20000) (loose := Lw.loose) (d := HandSHeadRun.topDef (OpenLaw.row PySem.Challenge.rw_pathstrue_k09_refutations_called_over_th).prog Lw.lawI) (kwd := []) Lw.ob_eq
    (by kernel_rfl) (fun s => by kernel_rfl) Lw.run (by kernel_rfl) (by kernel_rfl) (by kernel_rfl) (by rfl) (by first | assumption | decide +kernel) (by decide +kernel) ⟨rfl, rfl, rfl, rfl, rfl, by decide +kernel⟩ ?hw ?hc
  case hw => w_witness2
  case hc =>
    refine L2.walk_ofE (l := PySem.Challenge.rw_pathstrue_k09_refutations_called_over_th) (n := 63) (k := 200) (x := "script") (CX := L2.CX0) rfl (by decide) (by kernel_rfl) ⟨rfl, by decide, by decide⟩ ?F (fun _ _ _ _ z => z)
    intro w mg fa h Y G hmg0
    have hmg : mg ("law" : PySem.Str) = some (.ref fa) := by
      have e : (HandSHeadRun.topDef (OpenLaw.row PySem.Challenge.rw_pathstrue_k09_refutations_called_over_th).prog Lw.lawI).name = ("law" : PySem.Str) := by kernel_rfl
      rw [← e]
      exact hmg0
    exact Dq.law_fn (G := Lw.G) (bd := Lw.bd) (n := Lw.nF) (k := 99) (fun _ => True) Y G (by decide +kernel) Lw.bd_ok rfl rfl (by decide +kernel) hmg Lw.p_law
