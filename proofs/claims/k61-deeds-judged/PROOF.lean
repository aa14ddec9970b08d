import PyProof.Rows.All
import Wide.All
import OpenK.AllK
import Wide.FinOn
import HandS.ForMost
import HandS.Exc
import HandS.TupAny
import HandS.IsInst
import HandS.Deep
import HandS.Zip
import HandS.Ends
import HandS.Defaults
import KE.KDictKeyed
import HandS.Star
import HandS.MethStar
import HandS.MakeKwOnly
import KE.KStateDown
import HandS.More
import HandS.Words
import HandS.WordsExc
import HandS.Head0
import HandS.Head1
import HandS.Head2
import HandS.HeadEnd
import HandS.HeadHook1
import HandS.HeadHook2
import Lean
import PySem.Challenge.RW_fillchairs_k61_deeds_judged
set_option Elab.async false
set_option linter.all false
set_option maxRecDepth 100000
set_option maxHeartbeats 0
namespace DL
open PySem PySem.Spec PyProof.Rows L2

/-! ### data: tuples, frozen lists and dicts are values; what may change stands in a store -/
inductive D where
  | non | bl (b : Bool) | int (i : Int) | str (x : Str)
  | tup (ds : List D) | lst (ds : List D) | dct (ks vs : List D) | loc (a : Addr)

inductive DO where
  | lst (ds : List D) | dct (ks vs : List D)

abbrev Sto := Addr → Option DO
def Sto.set (S : Sto) (a : Addr) (o : DO) : Sto := fun b => if b = a then some o else S b
def Sto.del (S : Sto) (a : Addr) : Sto := fun b => if b = a then none else S b
theorem Sto.set_same {S : Sto} {a : Addr} {o : DO} : S.set a o a = some o := by unfold Sto.set; rw [if_pos rfl]
theorem Sto.set_ne {S : Sto} {a b : Addr} {o : DO} (h : b ≠ a) : S.set a o b = S b := by unfold Sto.set; rw [if_neg h]
theorem Sto.set_set {S : Sto} {a : Addr} {o u : DO} : (S.set a o).set a u = S.set a u := by
  funext b; unfold Sto.set; split <;> rfl
theorem Sto.del_same {S : Sto} {a : Addr} : S.del a a = none := by unfold Sto.del; rw [if_pos rfl]
theorem Sto.del_ne {S : Sto} {a b : Addr} (h : b ≠ a) : S.del a b = S b := by unfold Sto.del; rw [if_neg h]
theorem Sto.del_set {S : Sto} {a : Addr} {o : DO} (h : S a = none) : (S.set a o).del a = S := by
  funext b
  by_cases e : b = a
  · subst e; rw [Sto.del_same, h]
  · rw [Sto.del_ne e, Sto.set_ne e]

def lstOf (S : Sto) : D → Option (List D)
  | .lst ds => some ds
  | .loc a => (match S a with | some (.lst ds) => some ds | _ => none)
  | _ => none
def seqOf (S : Sto) : D → Option (List D)
  | .tup ds => some ds
  | .lst ds => some ds
  | .loc a => (match S a with | some (.lst ds) => some ds | _ => none)
  | _ => none

/-! keys of dicts -/
mutual
def toKey : D → Option NestedKey
  | .non => some .none
  | .bl b => some (.num (if b = true then 1 else 0))
  | .int i => some (.num i)
  | .str x => some (.text x)
  | .tup ds => (toKeys ds).map NestedKey.tup
  | _ => none
def toKeys : List D → Option (List NestedKey)
  | [] => some []
  | d :: ds => (match toKey d, toKeys ds with | some k, some ks => some (k :: ks) | _, _ => none)
end
mutual
/-- as the library's data; none where something may change -/
def toPD : D → Option PyData
  | .non => some .none
  | .bl b => some (.bool b)
  | .int i => some (.int i)
  | .str x => some (.str x)
  | .tup ds => (toPDs ds).map PyData.tuple
  | .lst ds => (toPDs ds).map PyData.list
  | _ => none
def toPDs : List D → Option (List PyData)
  | [] => some []
  | d :: ds => (match toPD d, toPDs ds with | some k, some ks => some (k :: ks) | _, _ => none)
end
def pdOf (S : Sto) (d : D) : Option PyData :=
  match d with
  | .loc a => (match S a with | some (.lst ds) => (toPDs ds).map PyData.list | _ => none)
  | d => toPD d

/-! ### data in the heap -/
/-- what stays -/
structure Kp (H H' : Hp) : Prop where
  tups : ∀ b xs, H b = some (.tup xs) → H' b = some (.tup xs)
  frzs : ∀ b o u, H b = some (.frz o u) → H' b = some (.frz o u)
theorem Kp.refl {H : Hp} : Kp H H := ⟨fun _ _ h => h, fun _ _ _ h => h⟩
theorem Kp.trans {H H1 H2 : Hp} (a : Kp H H1) (b : Kp H1 H2) : Kp H H2 := ⟨fun c x h => b.tups c x (a.tups c x h), fun c o u h => b.frzs c o u (a.frzs c o u h)⟩
theorem Kp.new {H : Hp} {p : Addr} {o : HO} (h : H p = none) : Kp H (upd H p o) :=
  ⟨fun b x e => by rw [upd_ne (ne_of_none e h)]; exact e, fun b x u e => by rw [upd_ne (ne_of_none e h)]; exact e⟩
/-- a list that is never changed again: it reads so wherever what stays has stayed -/
def ImL (K : PySem.W.Frag) (H : Hp) (a : Addr) (xs : List V) : Prop := ∀ H', Kp H H' → SqL K H' a xs
theorem ImL.sq {K : PySem.W.Frag} {H : Hp} {a : Addr} {xs : List V} (h : ImL K H a xs) : SqL K H a xs := h H Kp.refl
theorem ImL.frz {K : PySem.W.Frag} {H : Hp} {a : Addr} {xs : List V} {o : Obj} (h : H a = some (.frz o (.lst xs))) : ImL K H a xs := fun _ k => .inl (.inr ⟨o, k.frzs _ _ _ h⟩)
theorem ImL.only {K : PySem.W.Frag} {H : Hp} {a : Addr} {xs : List V} (o : Only H) (h : SqL K H a xs) : ImL K H a xs := by
  rcases h with (h | ⟨u, h⟩) | h
  · rcases o a with z | ⟨_, _, z⟩ <;> rw [h] at z <;> cases z
  · exact .frz h
  · exact fun _ _ => .inr h
/-- the object of a dict with nested keys: its entries -/
structure DcO (w : World) (o : Obj) (ps : List (NestedKey × Addr × Value)) : Prop where
  ex : o.ExactDict
  en : ∃ es ep, o.data = .dict es ep ∧ ∀ P : Program, es.toList = ps.map (entryOfKey (nestedKind P w))
  nd : (ps.map (·.1)).Nodup
  sz : ps.length ≤ sizeLine
def atO (a : Addr) (o : Obj) : HO := .ext fun h => h.get? a = some o
mutual
inductive RV (w : World) (K : PySem.W.Frag) (H : Hp) : V → D → Prop
  | non : RV w K H .non .non
  | bl (b : Bool) : RV w K H (.bl b) (.bl b)
  | int (i : Int) : RV w K H (.int i) (.int i)
  | str (x : Str) : RV w K H (.str x) (.str x)
  | tup {a : Addr} {vs : List V} {ds : List D} : vs.length ≤ sizeLine → SqT K H a vs → RVs w K H vs ds → RV w K H (.ref a) (.tup ds)
  | lst {a : Addr} {vs : List V} {ds : List D} : vs.length ≤ sizeLine → ImL K H a vs → RVs w K H vs ds → RV w K H (.ref a) (.lst ds)
  | dct {a : Addr} {o o' : Obj} {ps : List (NestedKey × Addr × Value)} {vs : List V} {ks ds : List D} : (a == sysModules) = false → H a = some (.frz o (atO a o')) → DcO w o' ps →
      toKeys ks = some (ps.map (·.1)) → RVs w K H (ps.map fun p => V.ref p.2.1) ks → Vals vs (ps.map (·.2.2)) → RVs w K H vs ds → RV w K H (.ref a) (.dct ks ds)
  | loc (a : Addr) : RV w K H (.ref a) (.loc a)
inductive RVs (w : World) (K : PySem.W.Frag) (H : Hp) : List V → List D → Prop
  | nil : RVs w K H [] []
  | cons {v : V} {d : D} {vs : List V} {ds : List D} : RV w K H v d → RVs w K H vs ds → RVs w K H (v :: vs) (d :: ds)
end
def Chg : HO → Prop
  | .tup _ => False
  | .frz _ _ => False
  | _ => True
theorem Kp.chg {H : Hp} {p : Addr} {u o : HO} (h : H p = some u) (c : Chg u) : Kp H (upd H p o) :=
  ⟨fun b x e => by rw [upd_ne (fun z => by rw [z, h] at e; cases e; exact c)]; exact e, fun b x u' e => by rw [upd_ne (fun z => by rw [z, h] at e; cases e; exact c)]; exact e⟩
section
variable {w : World} {K : PySem.W.Frag} {H H' : Hp}
theorem sqT_kp (k : Kp H H') {a : Addr} {xs : List V} (h : SqT K H a xs) : SqT K H' a xs := by
  rcases h with (h | ⟨o, h⟩) | h
  · exact .inl (.inl (k.tups _ _ h))
  · exact .inl (.inr ⟨o, k.frzs _ _ _ h⟩)
  · exact .inr h
theorem ImL.kp (k : Kp H H') {a : Addr} {xs : List V} (h : ImL K H a xs) : ImL K H' a xs := fun _ k' => h _ (k.trans k')
mutual
theorem RV.kp (k : Kp H H') : ∀ {v : V} {d : D}, RV w K H v d → RV w K H' v d
  | _, _, .non => .non
  | _, _, .bl b => .bl b
  | _, _, .int i => .int i
  | _, _, .str x => .str x
  | _, _, .tup z h r => .tup z (sqT_kp k h) (RVs.kp k r)
  | _, _, .lst z h r => .lst z (h.kp k) (RVs.kp k r)
  | _, _, .dct z h o e r v q => .dct z (k.frzs _ _ _ h) o e (RVs.kp k r) v (RVs.kp k q)
  | _, _, .loc a => .loc a
theorem RVs.kp (k : Kp H H') : ∀ {vs : List V} {ds : List D}, RVs w K H vs ds → RVs w K H' vs ds
  | _, _, .nil => .nil
  | _, _, .cons r t => .cons (RV.kp k r) (RVs.kp k t)
end
theorem RVs.length : ∀ {vs : List V} {ds : List D}, RVs w K H vs ds → vs.length = ds.length
  | _, _, .nil => rfl
  | _, _, .cons _ t => congrArg Nat.succ (RVs.length t)
theorem RVs.get : ∀ {vs : List V} {ds : List D} {i : Nat} {d : D}, RVs w K H vs ds → ds[i]? = some d → ∃ v, vs[i]? = some v ∧ RV w K H v d
  | _, _, _, _, .nil, e => by simp at e
  | _, _, 0, _, .cons r _, e => by
    simp at e; subst e; exact ⟨_, rfl, r⟩
  | _, _, i + 1, d, .cons _ t, e => by
    obtain ⟨v, h1, h2⟩ := RVs.get (i := i) (d := d) t (by simpa using e)
    exact ⟨v, by simpa using h1, h2⟩
theorem RVs.get' : ∀ {vs : List V} {ds : List D} {i : Nat} {v : V}, RVs w K H vs ds → vs[i]? = some v → ∃ d, ds[i]? = some d ∧ RV w K H v d
  | _, _, _, _, .nil, e => by simp at e
  | _, _, 0, _, .cons r _, e => by
    simp at e; subst e; exact ⟨_, rfl, r⟩
  | _, _, i + 1, d, .cons _ t, e => by
    obtain ⟨v, h1, h2⟩ := RVs.get' (i := i) (v := d) t (by simpa using e)
    exact ⟨v, by simpa using h1, h2⟩
theorem RVs.app : ∀ {vs us : List V} {ds es : List D}, RVs w K H vs ds → RVs w K H us es → RVs w K H (vs ++ us) (ds ++ es)
  | _, _, _, _, .nil, s => s
  | _, _, _, _, .cons r t, s => .cons r (RVs.app t s)
theorem RVs.take : ∀ {vs : List V} {ds : List D} (n : Nat), RVs w K H vs ds → RVs w K H (vs.take n) (ds.take n)
  | _, _, 0, _ => .nil
  | _, _, _ + 1, .nil => .nil
  | _, _, n + 1, .cons r t => .cons r (RVs.take n t)
theorem RVs.drop : ∀ {vs : List V} {ds : List D} (n : Nat), RVs w K H vs ds → RVs w K H (vs.drop n) (ds.drop n)
  | _, _, 0, r => r
  | _, _, _ + 1, .nil => .nil
  | _, _, n + 1, .cons _ t => RVs.drop n t
theorem RVs.set : ∀ {vs : List V} {ds : List D} (i : Nat) {v : V} {d : D}, RVs w K H vs ds → RV w K H v d → RVs w K H (vs.set i v) (ds.set i d)
  | _, _, _, _, _, .nil, _ => .nil
  | _, _, 0, _, _, .cons _ t, r => .cons r t
  | _, _, i + 1, _, _, .cons q t, r => .cons q (RVs.set i t r)
theorem RVs.erase : ∀ {vs : List V} {ds : List D} (i : Nat), RVs w K H vs ds → RVs w K H (vs.eraseIdx i) (ds.eraseIdx i)
  | _, _, _, .nil => .nil
  | _, _, 0, .cons _ t => t
  | _, _, i + 1, .cons q t => .cons q (RVs.erase i t)
theorem RVs.rev : ∀ {vs : List V} {ds : List D}, RVs w K H vs ds → RVs w K H vs.reverse ds.reverse
  | _, _, .nil => .nil
  | _, _, .cons r t => by
    rw [List.reverse_cons, List.reverse_cons]
    exact RVs.app (RVs.rev t) (.cons r .nil)
end

/-- the store is held -/
def HoldO (w : World) (K : PySem.W.Frag) (H : Hp) (a : Addr) : DO → Prop
  | .lst ds => ∃ vs, H a = some (.lst vs) ∧ RVs w K H vs ds ∧ vs.length ≤ sizeLine
  | .dct ks ds => ∃ (o : Obj) (ps : List (NestedKey × Addr × Value)) (vs : List V), (a == sysModules) = false ∧ H a = some (atO a o) ∧ DcO w o ps ∧
      toKeys ks = some (ps.map (·.1)) ∧ RVs w K H (ps.map fun p => V.ref p.2.1) ks ∧ Vals vs (ps.map (·.2.2)) ∧ RVs w K H vs ds
def HRel (w : World) (K : PySem.W.Frag) (S : Sto) (H : Hp) : Prop := ∀ a o, S a = some o → HoldO w K H a o
section
variable {w : World} {K : PySem.W.Frag} {H H' : Hp} {S : Sto}
theorem HoldO.kp (k : Kp H H') {a : Addr} {o : DO} (e : H' a = H a) (h : HoldO w K H a o) : HoldO w K H' a o := by
  cases o with
  | lst ds => obtain ⟨vs, h1, h2, h3⟩ := h; exact ⟨vs, e.trans h1, h2.kp k, h3⟩
  | dct ks ds => obtain ⟨o, ps, vs, z, h1, h2, h3, h4, h5, h6⟩ := h; exact ⟨o, ps, vs, z, e.trans h1, h2, h3, h4.kp k, h5, h6.kp k⟩
theorem HoldO.ne {a p : Addr} {o : DO} (h : HoldO w K H a o) (n : H p = none) : a ≠ p := by
  cases o with
  | lst ds => obtain ⟨vs, h1, _⟩ := h; exact ne_of_none h1 n
  | dct ks ds => obtain ⟨o, ps, vs, z, h1, _⟩ := h; exact ne_of_none h1 n
theorem HRel.new (h : HRel w K S H) {p : Addr} {o : HO} (n : H p = none) : HRel w K S (upd H p o) := fun a u e =>
  (h a u e).kp (Kp.new n) (upd_ne ((h a u e).ne n))
theorem HRel.free (h : HRel w K S H) {p : Addr} (n : H p = none) : S p = none := by
  cases e : S p with
  | none => rfl
  | some o => exact absurd rfl ((h p o e).ne n)
theorem HRel.sub {S' : Sto} (h : HRel w K S H) (s : ∀ a o, S' a = some o → S a = some o) : HRel w K S' H := fun a o e => h a o (s a o e)
theorem HRel.put (h : HRel w K S H) {p : Addr} {o : HO} {d : DO} (k : Kp H (upd H p o)) (n : HoldO w K (upd H p o) p d) : HRel w K (S.set p d) (upd H p o) := fun a u e => by
  by_cases ea : a = p
  · subst ea
    rw [Sto.set_same] at e; cases e; exact n
  · rw [Sto.set_ne ea] at e
    exact (h a u e).kp k (upd_ne ea)
theorem HRel.drop (h : HRel w K S H) {p : Addr} {o : HO} (k : Kp H (upd H p o)) : HRel w K (S.del p) (upd H p o) := fun a u e => by
  by_cases ea : a = p
  · subst ea
    rw [Sto.del_same] at e; cases e
  · rw [Sto.del_ne ea] at e
    exact (h a u e).kp k (upd_ne ea)
end

/-- what a step may do: what is tracked and not in the store stays -/
structure Ext (S : Sto) (H : Hp) (S' : Sto) (H' : Hp) : Prop where
  kp : Kp H H'
  fr : ∀ a o, H a = some o → S a = none → H' a = some o ∧ S' a = none
theorem Ext.refl {S : Sto} {H : Hp} : Ext S H S H := ⟨Kp.refl, fun _ _ h n => ⟨h, n⟩⟩
theorem Ext.trans {S S1 S2 : Sto} {H H1 H2 : Hp} (a : Ext S H S1 H1) (b : Ext S1 H1 S2 H2) : Ext S H S2 H2 :=
  ⟨a.kp.trans b.kp, fun c o h n => let ⟨h1, n1⟩ := a.fr c o h n; b.fr c o h1 n1⟩
theorem Ext.new {S : Sto} {H : Hp} {p : Addr} {o : HO} (n : H p = none) : Ext S H S (upd H p o) :=
  ⟨Kp.new n, fun a u h m => ⟨by rw [upd_ne (ne_of_none h n)]; exact h, m⟩⟩
theorem Ext.newS {S : Sto} {H : Hp} {p : Addr} {o : HO} {d : DO} (n : H p = none) : Ext S H (S.set p d) (upd H p o) :=
  ⟨Kp.new n, fun a u h m => ⟨by rw [upd_ne (ne_of_none h n)]; exact h, by rw [Sto.set_ne (ne_of_none h n)]; exact m⟩⟩
theorem Ext.chg {S : Sto} {H : Hp} {p : Addr} {u o : HO} {d e : DO} (h : H p = some u) (c : Chg u) (m : S p = some e) : Ext S H (S.set p d) (upd H p o) :=
  ⟨Kp.chg h c, fun a x q n => by
    have ne : a ≠ p := fun z => by rw [z, m] at n; cases n
    exact ⟨by rw [upd_ne ne]; exact q, by rw [Sto.set_ne ne]; exact n⟩⟩
theorem Ext.del {S : Sto} {H : Hp} {p : Addr} {u o : HO} {e : DO} (h : H p = some u) (c : Chg u) (m : S p = some e) : Ext S H (S.del p) (upd H p o) :=
  ⟨Kp.chg h c, fun a x q n => by
    have ne : a ≠ p := fun z => by rw [z, m] at n; cases n
    exact ⟨by rw [upd_ne ne]; exact q, by rw [Sto.del_ne ne]; exact n⟩⟩

/-! ### reading data off the heap -/
section
variable {w : World} {K : PySem.W.Frag} {H : Hp} {S : Sto}
theorem rv_lstOf (r : HRel w K S H) {v : V} {d : D} {ds : List D} (h : RV w K H v d) (e : lstOf S d = some ds) : ∃ a vs, v = .ref a ∧ SqL K H a vs ∧ RVs w K H vs ds ∧ vs.length ≤ sizeLine := by
  cases h with
  | lst hz hl hr => cases e; exact ⟨_, _, rfl, hl.sq, hr, hz⟩
  | loc a =>
    simp only [lstOf] at e
    split at e
    · rename_i ds' q
      cases e
      obtain ⟨vs, h1, h2, h3⟩ := r a _ q
      exact ⟨a, vs, rfl, SqL.of h1, h2, h3⟩
    · cases e
  | _ => cases e
theorem rv_seqOf (r : HRel w K S H) {v : V} {d : D} {ds : List D} (h : RV w K H v d) (e : seqOf S d = some ds) : ∃ a vs, v = .ref a ∧ (SqL K H a vs ∨ SqT K H a vs) ∧ RVs w K H vs ds ∧ vs.length ≤ sizeLine := by
  cases h with
  | lst hz hl hr => cases e; exact ⟨_, _, rfl, .inl hl.sq, hr, hz⟩
  | tup hz hl hr => cases e; exact ⟨_, _, rfl, .inr hl, hr, hz⟩
  | loc a =>
    simp only [seqOf] at e
    split at e
    · rename_i ds' q
      cases e
      obtain ⟨vs, h1, h2, h3⟩ := r a _ q
      exact ⟨a, vs, rfl, .inl (SqL.of h1), h2, h3⟩
    · cases e
  | _ => cases e
mutual
theorem rv_dp : ∀ {v : V} {d : D} {p : PyData}, RV w K H v d → toPD d = some p → Dp K H v p
  | _, _, _, .non, e => by cases e; exact .non
  | _, _, _, .bl b, e => by cases e; exact .bl b
  | _, _, _, .int i, e => by cases e; exact .int i
  | _, _, _, .str x, e => by cases e; exact .str x
  | _, _, _, .tup (ds := ds) _ h r, e => by
    cases q : toPDs ds with
    | none => rw [toPD, q] at e; cases e
    | some qs => rw [toPD, q] at e; cases e; exact .tup h (rvs_dp r q)
  | _, _, _, .lst (ds := ds) _ h r, e => by
    cases q : toPDs ds with
    | none => rw [toPD, q] at e; cases e
    | some qs => rw [toPD, q] at e; cases e; exact .lst h.sq (rvs_dp r q)
  | _, _, _, .dct .., e => by simp [toPD] at e
  | _, _, _, .loc _, e => by simp [toPD] at e
theorem rvs_dp : ∀ {vs : List V} {ds : List D} {ps : List PyData}, RVs w K H vs ds → toPDs ds = some ps → DpAll K H vs ps
  | _, _, _, .nil, e => by cases e; exact .nil
  | _, _, _, .cons (d := d) (ds := ds) r t, e => by
    cases q1 : toPD d with
    | none => simp only [toPDs, q1] at e; cases e
    | some p =>
      cases q2 : toPDs ds with
      | none => simp only [toPDs, q1, q2] at e; cases e
      | some ps => simp only [toPDs, q1, q2] at e; cases e; exact .cons (rv_dp r q1) (rvs_dp t q2)
end
theorem rv_pdOf (r : HRel w K S H) {v : V} {d : D} {p : PyData} (h : RV w K H v d) (e : pdOf S d = some p) : Dp K H v p := by
  by_cases hd : ∃ a, d = .loc a
  · obtain ⟨a, rfl⟩ := hd
    cases h
    simp only [pdOf] at e
    split at e
    · rename_i ds q
      obtain ⟨vs, h1, h2, _⟩ := r a _ q
      cases q2 : toPDs ds with
      | none => rw [q2] at e; cases e
      | some ps => rw [q2] at e; cases e; exact .lst (SqL.of h1) (rvs_dp h2 q2)
    · cases e
  · have e2 : pdOf S d = toPD d := by
      cases d <;> first | rfl | exact absurd ⟨_, rfl⟩ hd
    rw [e2] at e
    exact rv_dp h e
end
end DL
namespace DL
open PySem PySem.Spec PyProof.Rows L2

/-! ### the small syntax -/
inductive Bi where
  | len | max2 | min2 | int1 | tuple1 | list1 | all1 | any1 | sum1
inductive Me where
  | append | popAt
mutual
inductive Tg where
  | nm (i : Nat) | tup (ts : Tgs)
inductive Tgs where
  | nil | cons (t : Tg) (ts : Tgs)
end
mutual
inductive Ex where
  | va (i : Nat) | co (c : Const) | gl (x : Nat)
  | tup (es : Exs) | lst (es : Exs) | lstm (es : Exs)
  | bin (o : Operator) (a b : Ex) | neg (a : Ex)
  | cmp (o : CmpOp) (a b : Ex) | chn (o p : CmpOp) (a b c : Ex)
  | and (a b : Ex) | or (a b : Ex) | one (a : Ex) | not (a : Ex)
  | ife (c a b : Ex)
  | ix (a b : Ex) | sl (a : Ex) (lo hi : Exo)
  | call (f : Nat) (es : Exs) | calld (f : Nat) (es : Exs) (cs : List Nat) | callk (f : Nat) (es ks : Exs) | calls (f : Nat) (a b : Ex)
  | bi (b : Bi) (es : Exs) | isi (a : Ex) (t : String)
  | meth (m : Me) (o a : Ex)
  | lc (own : List Nat) (it : Ix) (tg : Tg) (c : Exs) (e : Ex)
  | frz (a : Ex)
inductive Exs where
  | nil | cons (e : Ex) (es : Exs)
inductive Exo where
  | no | so (e : Ex)
inductive Ix where
  | seq (e : Ex) | rng1 (e : Ex) | rng2 (a b : Ex) | enum (e : Ex) | zip (a b : Ex)
end
mutual
inductive Stm where
  | asg (t : Tg) (e : Ex) | aug (i : Nat) (o : Operator) (e : Ex)
  | ifs (c : Ex) (a b : Stms) | for_ (t : Tg) (it : Ix) (b : Stms) | whl (c : Ex) (b : Stms)
  | ret (e : Ex) | retn | brk | cont | exp (e : Ex) | pass | never
inductive Stms where
  | nil | cons (s : Stm) (ss : Stms)
end

/-! ### what it means -/
structure XD where
  cls : Str
  fs : List (Str × D)
abbrev SD := List (Option D)
abbrev QD := D → Sto → Prop
abbrev XP := XD → Sto → Prop
abbrev XP0 : XP := fun _ _ => False
abbrev DSp := List D → Sto → QD → XP → Prop
structure Fn where
  ar : Nat
  lv : Nat
  sp : DSp

def optW {α : Type} (o : Option α) (k : α → Prop) : Prop := match o with
  | some a => k a
  | none => False
def getS : SD → Nat → Option D
  | [], _ => none
  | x :: _, 0 => x
  | _ :: r, i + 1 => getS r i
def setS : SD → Nat → D → SD
  | [], _, _ => []
  | _ :: r, 0, d => some d :: r
  | x :: r, i + 1, d => x :: setS r i d
def wipeS : SD → List Nat → SD
  | s, [] => s
  | s, v :: vs => (wipeS s vs).set v none
def conD : Const → Option D
  | .none => some .non
  | .bool b => some (.bl b)
  | .int i => some (.int i)
  | .str x => some (.str x)
  | _ => none
def mulOk (i j : Int) : Bool := (decide (-(2 ^ 64) < i) && decide (i < 2 ^ 64)) || (decide (-(2 ^ 64) < j) && decide (j < 2 ^ 64))
def guardO {α : Type} (b : Bool) (x : α) : Option α := if b = true then some x else none
def binD (o : Operator) (S : Sto) (x y : D) : Option D :=
  match o, x, y with
  | .Add, .int i, .int j => some (.int (i + j))
  | .Add, .tup a, .tup b => guardO (decide (a.length + b.length ≤ 16777216)) (.tup (a ++ b))
  | .Add, x, y => (match lstOf S x, lstOf S y with
    | some a, some b => guardO (decide (a.length + b.length ≤ 16777216)) (.lst (a ++ b))
    | _, _ => none)
  | .Sub, .int i, .int j => some (.int (i - j))
  | .Mult, .int i, .int j => guardO (mulOk i j) (.int (i * j))
  | .FloorDiv, .int i, .int j => guardO (decide (0 < j) && decide (j < 1073741824)) (.int (i / j))
  | .Mod, .int i, .int j => guardO (decide (0 < j)) (.int (i % j))
  | .Pow, .int i, .int j => guardO (decide (0 ≤ j) && decide (j ≤ 1000000) && decide (i.natAbs < 2 ^ 64)) (.int (i ^ j.toNat))
  | _, _, _ => none
def negD : D → Option D
  | .int i => some (.int (-i))
  | _ => none
def isNon : D → Bool
  | .non => true
  | _ => false
/-- == as data -/
def eqD (S : Sto) (x y : D) : Option Bool :=
  match x, y with
  | .str a, .str b => some (decide (a = b))
  | x, y => (match pdOf S x, pdOf S y with
    | some p, some q => guardO (SeqAt.shaped p && SeqAt.shaped q) (PyData.eqv p q)
    | _, _ => none)
def flatD : D → Bool
  | .non => true
  | .bl _ => true
  | .int _ => true
  | .str _ => true
  | _ => false
/-- in a list (any data), in a tuple (flat data) -/
def inD (S : Sto) (x y : D) : Option Bool :=
  match y with
  | .tup ds => (match toPD x, toPDs ds with
    | some p, some qs => guardO (flatD x && ds.all flatD) (qs.any fun z => PyData.eqv z p)
    | _, _ => none)
  | y => (match pdOf S x, pdOf S y with
    | some p, some (.list qs) => guardO (SeqAt.shaped p && SeqAt.shaped (.list qs)) (qs.any fun z => PyData.eqv z p)
    | _, _ => none)
def cmpD (o : CmpOp) (S : Sto) (x y : D) : Option Bool :=
  match o, x, y with
  | .Lt, .int i, .int j => some (decide (i < j))
  | .LtE, .int i, .int j => some (decide (i ≤ j))
  | .Gt, .int i, .int j => some (decide (j < i))
  | .GtE, .int i, .int j => some (decide (j ≤ i))
  | .Eq, x, y => eqD S x y
  | .NotEq, x, y => (eqD S x y).map Bool.not
  | .Is, x, .non => some (isNon x)
  | .IsNot, x, .non => some (!isNon x)
  | .In, x, y => inD S x y
  | .NotIn, x, y => (inD S x y).map Bool.not
  | _, _, _ => none
def ixD (S : Sto) (x i : D) : Option D :=
  match i, seqOf S x with
  | .int i, some ds => atI ds i
  | _, _ => none
def cutD {α : Type} (xs : List α) (lo hi : Option Int) : List α := (xs.drop (HT.sIx xs.length 0 lo)).take (HT.sIx xs.length xs.length hi - HT.sIx xs.length 0 lo)
def slD (S : Sto) (x : D) (lo hi : Option Int) : Option D :=
  match x with
  | .tup ds => some (.tup (cutD ds lo hi))
  | x => (lstOf S x).map fun ds => .lst (cutD ds lo hi)
def tyD (S : Sto) : D → Option String
  | .non => some "NoneType"
  | .bl _ => some "bool"
  | .int _ => some "int"
  | .str _ => some "str"
  | .tup _ => some "tuple"
  | .lst _ => some "list"
  | .dct _ _ => none
  | .loc a => (match S a with | some (.lst _) => some "list" | _ => none)
def isiD (S : Sto) (x : D) (t : String) : Option Bool := (tyD S x).bind fun u => kitB u t
def boolsOf : List D → Option (List Bool)
  | [] => some []
  | .bl b :: ds => (boolsOf ds).map (b :: ·)
  | _ => none
def intsOf : List D → Option (List Int)
  | [] => some []
  | .int b :: ds => (intsOf ds).map (b :: ·)
  | _ => none
def biD (b : Bi) (S : Sto) (ds : List D) : Option D :=
  match b, ds with
  | .len, [x] => (seqOf S x).map fun ds => .int ds.length
  | .max2, [.int i, .int j] => some (.int (if j > i then j else i))
  | .min2, [.int i, .int j] => some (.int (if j < i then j else i))
  | .int1, [.int i] => some (.int i)
  | .int1, [.bl b] => some (.int (if b then 1 else 0))
  | .tuple1, [x] => (seqOf S x).map .tup
  | .list1, [x] => (seqOf S x).map .lst
  | .all1, [x] => ((lstOf S x).bind boolsOf).map fun bs => .bl (bs.all id)
  | .any1, [x] => ((lstOf S x).bind boolsOf).map fun bs => .bl (bs.any id)
  | .sum1, [x] => ((lstOf S x).bind intsOf).map fun ns => .int ns.sum
  | _, _ => none
def meD (m : Me) (o a : D) (S : Sto) (Q : QD) : Prop :=
  match m, o with
  | .append, .loc p => (match S p with
    | some (.lst ds) => ds.length < 16777216 ∧ Q .non (S.set p (.lst (ds ++ [a])))
    | _ => False)
  | .popAt, .loc p => (match S p, a with
    | some (.lst ds), .int i => optW (ixN ds.length i) fun k => optW ds[k]? fun y => Q y (S.set p (.lst (ds.eraseIdx k)))
    | _, _ => False)
  | _, _ => False
mutual
def wTg : Tg → D → SD → (SD → Prop) → Prop
  | .nm i, d, s, k => k (setS s i d)
  | .tup ts, .tup ds, s, k => wTgs ts ds s k
  | .tup _, _, _, _ => False
def wTgs : Tgs → List D → SD → (SD → Prop) → Prop
  | .nil, [], s, k => k s
  | .cons t ts, d :: ds, s, k => wTg t d s fun s' => wTgs ts ds s' k
  | _, _, _, _ => False
end
abbrev Gd := Sto → Prop
/-- a loop over items; g: what is walked stands as it was -/
def forW (g : Gd) (step : D → (SD → Sto → Prop) → SD → Sto → Prop) : List D → (SD → Sto → Prop) → SD → Sto → Prop
  | [], k, s, S => g S ∧ k s S
  | d :: ds, k, s, S => g S ∧ step d (forW g step ds k) s S
/-- a comprehension's loop -/
def lcW (g : Gd) (step : D → Sto → (Option D → Sto → Prop) → Prop) : List D → List D → Sto → (List D → Sto → Prop) → Prop
  | [], acc, S, Q => g S ∧ Q acc S
  | d :: ds, acc, S, Q => g S ∧ step d S fun r S' => lcW g step ds (acc ++ r.toList) S' Q
def gOf (S : Sto) : D → Gd
  | .loc a => fun S' => S' a = S a
  | _ => fun _ => True
def rngD (lo hi : Int) : List D := (List.range (hi - lo).toNat).map fun i => .int (lo + (i : Nat))
def rngOk (lo hi : Int) : Prop := (-(2 ^ 62) ≤ lo ∧ lo < 2 ^ 62) ∧ (-(2 ^ 62) ≤ hi ∧ hi < 2 ^ 62) ∧ (hi - lo).toNat ≤ 16777216
def enumD : Nat → List D → List D
  | _, [] => []
  | i, d :: ds => .tup [.int (i : Nat), d] :: enumD (i + 1) ds
def zipD : List D → List D → List D
  | x :: xs, y :: ys => .tup [x, y] :: zipD xs ys
  | _, _ => []
def isTupD : D → Bool
  | .tup _ => true
  | _ => false

mutual
def wE (Γ : Nat → Fn) (Cs : Nat → D) (F : XP) : Ex → SD → Sto → QD → Prop
  | .va i, s, S, Q => optW (getS s i) fun d => Q d S
  | .co c, _, S, Q => optW (conD c) fun d => Q d S
  | .gl x, _, S, Q => Q (Cs x) S
  | .tup es, s, S, Q => wA Γ Cs F es s S fun ds S1 => Q (.tup ds) S1
  | .lst es, s, S, Q => wA Γ Cs F es s S fun ds S1 => Q (.lst ds) S1
  | .lstm es, s, S, Q => wA Γ Cs F es s S fun ds S1 => ∀ p, S1 p = none → Q (.loc p) (S1.set p (.lst ds))
  | .bin o a b, s, S, Q => wE Γ Cs F a s S fun x S1 => wE Γ Cs F b s S1 fun y S2 => optW (binD o S2 x y) fun z => Q z S2
  | .neg a, s, S, Q => wE Γ Cs F a s S fun x S1 => optW (negD x) fun z => Q z S1
  | .cmp o a b, s, S, Q => wE Γ Cs F a s S fun x S1 => wE Γ Cs F b s S1 fun y S2 => optW (cmpD o S2 x y) fun z => Q (.bl z) S2
  | .chn o p a b c, s, S, Q => wE Γ Cs F a s S fun x S1 => wE Γ Cs F b s S1 fun y S2 => optW (cmpD o S2 x y) fun z =>
      if z = true then wE Γ Cs F c s S2 fun u S3 => optW (cmpD p S3 y u) fun z2 => Q (.bl z2) S3 else Q (.bl false) S2
  | .and a b, s, S, Q => wE Γ Cs F a s S fun x S1 => (match x with
      | .bl c => if c = true then wE Γ Cs F b s S1 Q else Q (.bl false) S1
      | _ => False)
  | .or a b, s, S, Q => wE Γ Cs F a s S fun x S1 => (match x with
      | .bl c => if c = true then Q (.bl true) S1 else wE Γ Cs F b s S1 Q
      | _ => False)
  | .one a, s, S, Q => wE Γ Cs F a s S Q
  | .not a, s, S, Q => wE Γ Cs F a s S fun x S1 => (match x with
      | .bl c => Q (.bl (!c)) S1
      | _ => False)
  | .ife c a b, s, S, Q => wE Γ Cs F c s S fun x S1 => (match x with
      | .bl c => if c = true then wE Γ Cs F a s S1 Q else wE Γ Cs F b s S1 Q
      | _ => False)
  | .ix a b, s, S, Q => wE Γ Cs F a s S fun x S1 => wE Γ Cs F b s S1 fun y S2 => optW (ixD S2 x y) fun z => Q z S2
  | .sl a lo hi, s, S, Q => wE Γ Cs F a s S fun x S1 => wP Γ Cs F lo s S1 fun l S2 => wP Γ Cs F hi s S2 fun h S3 => optW (slD S3 x l h) fun z => Q z S3
  | .call f es, s, S, Q => wA Γ Cs F es s S fun ds S1 => (Γ f).sp ds S1 Q F
  | .calld f es cs, s, S, Q => wA Γ Cs F es s S fun ds S1 => (Γ f).sp (ds ++ cs.map Cs) S1 Q F
  | .callk f es ks, s, S, Q => wA Γ Cs F es s S fun ds S1 => wA Γ Cs F ks s S1 fun us S2 => (Γ f).sp (ds ++ us) S2 Q F
  | .calls f a b, s, S, Q => wE Γ Cs F a s S fun x S1 => wE Γ Cs F b s S1 fun y S2 => (match y with
      | .tup ds => ds.length + 1 = (Γ f).ar ∧ (Γ f).sp (x :: ds) S2 Q F
      | _ => False)
  | .bi b es, s, S, Q => wA Γ Cs F es s S fun ds S1 => optW (biD b S1 ds) fun z => Q z S1
  | .isi a t, s, S, Q => wE Γ Cs F a s S fun x S1 => optW (isiD S1 x t) fun z => Q (.bl z) S1
  | .meth m o a, s, S, Q => wE Γ Cs F o s S fun x S1 => optW (lstOf S1 x) fun _ => wE Γ Cs F a s S1 fun y S2 => meD m x y S2 Q
  | .lc own it tg c e, s, S, Q => wI Γ Cs F it s S fun ds g S1 => lcW g (fun d S2 R => wTg tg d (wipeS s own) fun s1 => wIfs Γ Cs c s1 S2 (fun S3 => wE Γ Cs XP0 e s1 S3 fun y S4 => R (some y) S4) (fun S3 => R none S3)) ds [] S1 fun acc S2 => Q (.lst acc) S2
  | .frz a, s, S, Q => wE Γ Cs F a s S fun x S1 => (match x with
      | .loc p => (match S1 p with
        | some (.lst ds) => Q (.lst ds) (S1.del p)
        | some (.dct ks vs) => Q (.dct ks vs) (S1.del p)
        | none => False)
      | _ => False)
def wP (Γ : Nat → Fn) (Cs : Nat → D) (F : XP) : Exo → SD → Sto → (Option Int → Sto → Prop) → Prop
  | .no, _, S, Q => Q none S
  | .so e, s, S, Q => wE Γ Cs F e s S fun x S1 => (match x with | .int j => Q (some j) S1 | _ => False)
def wA (Γ : Nat → Fn) (Cs : Nat → D) (F : XP) : Exs → SD → Sto → (List D → Sto → Prop) → Prop
  | .nil, _, S, Q => Q [] S
  | .cons e es, s, S, Q => wE Γ Cs F e s S fun d S1 => wA Γ Cs F es s S1 fun ds S2 => Q (d :: ds) S2
/-- the tests of a comprehension: none or one -/
def wIfs (Γ : Nat → Fn) (Cs : Nat → D) : Exs → SD → Sto → (Sto → Prop) → (Sto → Prop) → Prop
  | .nil, _, S, y, _ => y S
  | .cons c _, s, S, y, n => wE Γ Cs XP0 c s S fun x S1 => (match x with
      | .bl b => if b = true then y S1 else n S1
      | _ => False)
def wI (Γ : Nat → Fn) (Cs : Nat → D) (F : XP) : Ix → SD → Sto → (List D → Gd → Sto → Prop) → Prop
  | .seq e, s, S, Q => wE Γ Cs F e s S fun x S1 => optW (seqOf S1 x) fun ds => Q ds (gOf S1 x) S1
  | .rng1 e, s, S, Q => wE Γ Cs F e s S fun x S1 => (match x with
      | .int n => rngOk 0 n ∧ Q (rngD 0 n) (fun _ => True) S1
      | _ => False)
  | .rng2 a b, s, S, Q => wE Γ Cs F a s S fun x S1 => wE Γ Cs F b s S1 fun y S2 => (match x, y with
      | .int m, .int n => rngOk m n ∧ Q (rngD m n) (fun _ => True) S2
      | _, _ => False)
  | .enum e, s, S, Q => wE Γ Cs F e s S fun x S1 => optW (lstOf S1 x) fun ds => Q (enumD 0 ds) (gOf S1 x) S1
  | .zip a b, s, S, Q => wE Γ Cs F a s S fun x S1 => wE Γ Cs F b s S1 fun y S2 => (match x, y with
      | .tup ds, .tup es => Q (zipD ds es) (fun _ => True) S2
      | x, y => optW (lstOf S2 x) fun ds => optW (lstOf S2 y) fun es => Q (zipD ds es) (fun S' => gOf S2 x S' ∧ gOf S2 y S') S2)
end

structure KD where
  nx : SD → Sto → Prop
  rt : QD
  bk : SD → Sto → Prop := fun _ _ => False
  ct : SD → Sto → Prop := fun _ _ => False
mutual
def wS (Γ : Nat → Fn) (Cs : Nat → D) (F : XP) : Stm → KD → SD → Sto → Prop
  | .asg t e, k, s, S => wE Γ Cs F e s S fun d S1 => wTg t d s fun s1 => k.nx s1 S1
  | .aug i o e, k, s, S => optW (getS s i) fun x => wE Γ Cs F e s S fun y S1 => (match x, y with
      | .int a, .int b => optW (binD o S1 x y) fun z => k.nx (setS s i z) S1
      | _, _ => False)
  | .ifs c a b, k, s, S => wE Γ Cs F c s S fun x S1 => (match x with
      | .bl c => if c = true then wSs Γ Cs F a k s S1 else wSs Γ Cs F b k s S1
      | _ => False)
  | .for_ t it b, k, s, S => wI Γ Cs F it s S fun ds g S1 => forW g (fun d nxt s1 S2 => wTg t d s1 fun s2 => wSs Γ Cs F b ⟨nxt, k.rt, k.nx, nxt⟩ s2 S2) ds k.nx s S1
  | .whl c b, k, s, S => ∃ W : Nat → SD → Sto → Prop, (∃ m, W m s S) ∧ ∀ m s S, W m s S → wE Γ Cs F c s S fun x S1 => (match x with
      | .bl c => if c = true then wSs Γ Cs F b ⟨fun s' S' => ∃ m', m' < m ∧ W m' s' S', k.rt, k.nx, fun s' S' => ∃ m', m' < m ∧ W m' s' S'⟩ s S1 else k.nx s S1
      | _ => False)
  | .ret e, k, s, S => wE Γ Cs F e s S k.rt
  | .retn, k, _, S => k.rt .non S
  | .brk, k, s, S => k.bk s S
  | .cont, k, s, S => k.ct s S
  | .exp e, k, s, S => wE Γ Cs F e s S fun _ S1 => k.nx s S1
  | .pass, k, s, S => k.nx s S
  | .never, _, _, _ => False
def wSs (Γ : Nat → Fn) (Cs : Nat → D) (F : XP) : Stms → KD → SD → Sto → Prop
  | .nil, k, s, S => k.nx s S
  | .cons a b, k, s, S => wS Γ Cs F a { k with nx := wSs Γ Cs F b k } s S
end
end DL
namespace DL
open PySem PySem.Spec PyProof.Rows L2

/-! ### lifting: from data to the heap -/
section
variable (w : World) (K : PySem.W.Frag)
/-- where a body was entered -/
abbrev Bs := Sto × Hp
def RS (H : Hp) (σ : L2.St) (s : SD) : Prop := s.length = σ.length ∧ ∀ i d, getS s i = some d → ∃ v, σ[i]? = some (some v) ∧ RV w K H v d
abbrev DTE := SD → Sto → QD → Prop
abbrev DTA := SD → Sto → (List D → Sto → Prop) → Prop
def liftE (B : Bs) (t : DTE) : TE := fun σ H Q => ∃ s S R, RS w K H σ s ∧ HRel w K S H ∧ Ext B.1 B.2 S H ∧ t s S R ∧ ∀ d S', R d S' → ∀ v H', Ext S H S' H' → RV w K H' v d → HRel w K S' H' → Q v H'
def liftT (B : Bs) (t : DTE) : TT := fun σ H Q => ∃ s S R, RS w K H σ s ∧ HRel w K S H ∧ Ext B.1 B.2 S H ∧ t s S R ∧ ∀ d S', R d S' → ∃ b, d = .bl b ∧ ∀ H', Ext S H S' H' → HRel w K S' H' → Q b H'
def liftA (B : Bs) (n : Nat) (t : DTA) : TA := fun σ H Q => ∃ s S R, RS w K H σ s ∧ HRel w K S H ∧ Ext B.1 B.2 S H ∧ t s S R ∧ ∀ ds S', R ds S' → ∀ vs H', Ext S H S' H' → RVs w K H' vs ds → HRel w K S' H' → vs.length = n → Q vs H'
def liftP (B : Bs) (t : SD → Sto → (Option Int → Sto → Prop) → Prop) : TO := fun σ H Q => ∃ s S R, RS w K H σ s ∧ HRel w K S H ∧ Ext B.1 B.2 S H ∧ t s S R ∧ ∀ o S', R o S' → ∀ H', Ext S H S' H' → HRel w K S' H' → Q o H'
/-- a pure operation -/
def liftO (f : Sto → D → D → Option D) : R2 := fun x y H Q => ∃ d e S z, RV w K H x d ∧ RV w K H y e ∧ HRel w K S H ∧ f S d e = some z ∧ ∀ v H', Ext S H S H' → RV w K H' v z → HRel w K S H' → Q v H'
def liftC (f : Sto → List D → Option D) : List V → Hp → VK → Prop := fun xs H Q => ∃ ds S z, RVs w K H xs ds ∧ HRel w K S H ∧ f S ds = some z ∧ ∀ v H', Ext S H S H' → RV w K H' v z → HRel w K S H' → Q v H'
end
/-- the end, where something made just now may be frozen -/
def lk (Q : VK) : VK := fun v H => Q v H ∨ ∃ a u, v = .ref a ∧ H a = some u ∧ Mut (some u) ∧ ∀ od, Q v (upd H a (.frz od u))

theorem optW_of {α : Type} {o : Option α} {k : α → Prop} (h : optW o k) : ∃ z, o = some z ∧ k z := by
  cases o with
  | none => exact h.elim
  | some z => exact ⟨z, rfl, h⟩
theorem guardO_of {α : Type} {b : Bool} {x z : α} (h : guardO b x = some z) : b = true ∧ x = z := by
  cases b with
  | false => cases h
  | true => cases h; exact ⟨rfl, rfl⟩
theorem getS_len : ∀ {s : SD} {i : Nat} {d : D}, getS s i = some d → i < s.length
  | [], _, _, h => by cases h
  | _ :: _, 0, _, _ => Nat.succ_pos _
  | _ :: r, i + 1, d, h => Nat.succ_lt_succ (getS_len (s := r) h)
theorem setS_len : ∀ (s : SD) (i : Nat) (d : D), (setS s i d).length = s.length
  | [], _, _ => rfl
  | _ :: _, 0, _ => rfl
  | _ :: r, i + 1, d => congrArg Nat.succ (setS_len r i d)
theorem getS_set : ∀ {s : SD} {i j : Nat} {d e : D}, getS (setS s i d) j = some e → (j = i ∧ e = d) ∨ (j ≠ i ∧ getS s j = some e)
  | [], _, _, _, _, h => by cases h
  | _ :: _, 0, 0, d, e, h => .inl ⟨rfl, (Option.some.inj h).symm⟩
  | _ :: _, 0, j + 1, d, e, h => .inr ⟨by omega, h⟩
  | _ :: _, i + 1, 0, d, e, h => .inr ⟨by omega, h⟩
  | _ :: r, i + 1, j + 1, d, e, h => by
    rcases getS_set (s := r) (i := i) (j := j) h with ⟨h1, h2⟩ | ⟨h1, h2⟩
    · exact .inl ⟨by omega, h2⟩
    · exact .inr ⟨by omega, h2⟩
theorem getS_at : ∀ {s : SD} {i : Nat}, getS s i = (s[i]?).join
  | [], _ => rfl
  | _ :: _, 0 => rfl
  | _ :: r, i + 1 => by rw [getS, getS_at (s := r)]; simp
theorem wipeS_len (s : SD) : ∀ vs : List Nat, (wipeS s vs).length = s.length
  | [] => rfl
  | v :: vs => by rw [wipeS, List.length_set, wipeS_len s vs]
theorem getS_wipe {s : SD} {i : Nat} {d : D} : ∀ {vs : List Nat}, getS (wipeS s vs) i = some d → getS s i = some d ∧ i ∉ vs
  | [], h => ⟨h, by simp⟩
  | v :: vs, h => by
    rw [wipeS, getS_at] at h
    by_cases e : v = i
    · subst e
      by_cases hv : v < (wipeS s vs).length
      · rw [List.getElem?_set_self hv] at h; cases h
      · rw [List.getElem?_eq_none (by simpa using hv)] at h; cases h
    · rw [List.getElem?_set_ne e, ← getS_at] at h
      obtain ⟨h1, h2⟩ := getS_wipe h
      exact ⟨h1, by simp only [List.mem_cons, not_or]; exact ⟨fun z => e z.symm, h2⟩⟩
theorem wipe_keep {σ : L2.St} {i : Nat} : ∀ {vs : List Nat}, i ∉ vs → (wipe σ vs)[i]? = σ[i]?
  | [], _ => rfl
  | v :: vs, h => by
    simp only [List.mem_cons, not_or] at h
    rw [wipe, List.getElem?_set_ne (Ne.symm h.1)]
    exact wipe_keep h.2
section
variable {w : World} {K : PySem.W.Frag} {H H' : Hp} {σ : L2.St} {s : SD}
theorem RS.kp (k : Kp H H') (h : RS w K H σ s) : RS w K H' σ s := ⟨h.1, fun i d e => let ⟨v, a, b⟩ := h.2 i d e; ⟨v, a, b.kp k⟩⟩
theorem RS.set (h : RS w K H σ s) {i : Nat} {v : V} {d : D} (r : RV w K H v d) : RS w K H (σ.set i (some v)) (setS s i d) := by
  refine ⟨by rw [setS_len, List.length_set]; exact h.1, fun j e q => ?_⟩
  rcases getS_set q with ⟨rfl, rfl⟩ | ⟨h1, h2⟩
  · have hl : j < σ.length := by rw [← h.1, ← setS_len s j e]; exact getS_len q
    exact ⟨v, List.getElem?_set_self hl, r⟩
  · rw [List.getElem?_set_ne (Ne.symm h1)]
    exact h.2 j e h2
theorem RS.wipe (h : RS w K H σ s) (vs : List Nat) : RS w K H (wipe σ vs) (wipeS s vs) := by
  refine ⟨by rw [wipeS_len, wipe_length]; exact h.1, fun i d q => ?_⟩
  obtain ⟨h1, h2⟩ := getS_wipe q
  rw [wipe_keep h2]
  exact h.2 i d h1
end

section
variable {X : Cx} {e a b : Expr} {t t' : TE}
theorem pe_imp (h : PE X e t) (f : ∀ σ H Q, t' σ H Q → t σ H Q) : PE X e t' := ⟨fun pins s σ H Q I q => h.run pins s σ H Q I (f σ H Q q)⟩
theorem pt_imp {t t' : TT} (h : PT X e t) (f : ∀ σ H Q, t' σ H Q → t σ H Q) : PT X e t' := ⟨fun pins s σ H Q I q => h.run pins s σ H Q I (f σ H Q q)⟩
theorem pw_imp {t t' : TT} (h : PW X e t) (f : ∀ σ H Q, t' σ H Q → t σ H Q) : PW X e t' := ⟨fun wh pins s σ H Q I q => h.run wh pins s σ H Q I (f σ H Q q)⟩
theorem pa_imp {es : List Expr} {t t' : TA} (h : PA X es t) (f : ∀ σ H Q, t' σ H Q → t σ H Q) : PA X es t' := ⟨fun p pins s σ H Q I q => h.run p pins s σ H Q I (f σ H Q q)⟩
theorem ps_imp {st : Stmt} {t t' : TS} (h : PS X st t) (f : ∀ D σ H, t' D σ H → t D σ H) : PS X st t' := ⟨fun pins s σ H D I q => h.run pins s σ H D I (f D σ H q)⟩
theorem pss_imp {st : List Stmt} {t t' : TS} (h : PSs X st t) (f : ∀ D σ H, t' D σ H → t D σ H) : PSs X st t' := ⟨fun pins s σ H D I q => h.run pins s σ H D I (f D σ H q)⟩
theorem ep_lk {pins : List (Addr × Obj)} {σ : L2.St} {Q : VK} {u : Value} {s : Shared} (h : EP X pins σ (lk Q) u s) : EP X pins σ Q u s := by
  obtain ⟨v, H, I, r, q⟩ := h
  rcases q with q | ⟨a, o, rfl, ha, mu, q⟩
  · exact ⟨v, H, I, r, q⟩
  · obtain ⟨od, I2⟩ := I.lock ha mu
    exact ⟨_, _, I2, r, q od⟩
theorem pe_lk (h : PE X e t) : PE X e (fun σ H Q => t σ H (lk Q)) := ⟨fun pins s σ H Q I q => thn (h.run pins s σ H _ I q) fun _ _ z => ep_lk z⟩
theorem opR_lk {f : Value → Value → Sem Value} {r : R2} (h : OpR X f r) : OpR X f (fun x y H Q => r x y H (lk Q)) := by
  intro pins s σ H x y v u Q I rx ry q
  exact thn (h pins s σ H x y v u _ I rx ry q) fun _ _ z => ep_lk z
theorem callR_lk {f : Value} {r : List V → Hp → VK → Prop} (h : CallR X f r) : CallR X f (fun xs H Q => r xs H (lk Q)) := by
  intro pins s σ H xs us Q I rs q
  exact thn (h pins s σ H xs us _ I rs q) fun _ _ z => ep_lk z
theorem slR_lk {r : V → Option Int → Option Int → Hp → VK → Prop} (h : SlR X r) : SlR X (fun x lo hi H Q => r x lo hi H (lk Q)) := by
  intro pins s σ H x v vl vu lo hi sl Q I rx hs pl pu q
  obtain ⟨T, id, h1, h2, h3⟩ := h pins s σ H x v vl vu lo hi sl _ I rx hs pl pu q
  exact ⟨T, id, h1, h2, thn h3 fun _ _ z => ep_lk z⟩
end

section
variable {w : World} {K : PySem.W.Frag} {H : Hp} {S : Sto}
/-- a new list, frozen at once -/
theorem new_lst {Q : VK} {p : Addr} {vs : List V} {ds : List D} (hz : vs.length ≤ sizeLine) (n : H p = none) (r : RVs w K H vs ds) (hS : HRel w K S H) (q : ∀ v H', Ext S H S H' → RV w K H' v (.lst ds) → HRel w K S H' → Q v H') : lk Q (.ref p) (upd H p (.lst vs)) := by
  refine .inr ⟨p, _, rfl, upd_same, trivial, fun od => ?_⟩
  rw [upd_upd]
  have k : Ext S H S (upd H p (.frz od (.lst vs))) := Ext.new n
  exact q _ _ k (.lst hz (.frz upd_same) (r.kp k.kp)) (hS.new n)
theorem new_tup {Q : VK} {p : Addr} {vs : List V} {ds : List D} (hz : vs.length ≤ sizeLine) (n : H p = none) (r : RVs w K H vs ds) (hS : HRel w K S H) (q : ∀ v H', Ext S H S H' → RV w K H' v (.tup ds) → HRel w K S H' → Q v H') : Q (.ref p) (upd H p (.tup vs)) := by
  have k : Ext S H S (upd H p (.tup vs)) := Ext.new n
  exact q _ _ k (.tup hz (SqT.of upd_same) (r.kp k.kp)) (hS.new n)
theorem line_le {n : Nat} (h : n ≤ 16777216) : n ≤ sizeLine := by rw [sizeLine_eq]; exact h
theorem le_line {n : Nat} (h : n ≤ sizeLine) : n ≤ 16777216 := by rw [sizeLine_eq] at h; exact h
theorem rv_tup {v : V} {ds : List D} (h : RV w K H v (.tup ds)) : ∃ a vs, v = .ref a ∧ SqT K H a vs ∧ RVs w K H vs ds ∧ vs.length ≤ sizeLine := by
  cases h with | tup z h r => exact ⟨_, _, rfl, h, r, z⟩
theorem rvs1 {vs : List V} {d : D} (h : RVs w K H vs [d]) : ∃ v, vs = [v] ∧ RV w K H v d := by
  cases h with | cons r t => cases t; exact ⟨_, rfl, r⟩
theorem rvs2 {vs : List V} {d e : D} (h : RVs w K H vs [d, e]) : ∃ v u, vs = [v, u] ∧ RV w K H v d ∧ RV w K H u e := by
  cases h with | cons r t => obtain ⟨u, rfl, q⟩ := rvs1 t; exact ⟨_, _, rfl, r, q⟩
theorem rv_int {v : V} {i : Int} (h : RV w K H v (.int i)) : v = .int i := by cases h; rfl
theorem rv_bl {v : V} {i : Bool} (h : RV w K H v (.bl i)) : v = .bl i := by cases h; rfl
theorem rv_str {v : V} {i : Str} (h : RV w K H v (.str i)) : v = .str i := by cases h; rfl
theorem isNon_ok {v : V} {d : D} (h : RV w K H v d) : decide (v = .non) = isNon d := by
  cases h <;> first | rfl | exact decide_eq_false (fun z => nomatch z)
theorem rvs_bools : ∀ {vs : List V} {ds : List D} {bs : List Bool}, RVs w K H vs ds → boolsOf ds = some bs → vs = bs.map V.bl
  | _, _, _, .nil, e => by cases e; rfl
  | _, _, _, .cons (d := d) (ds := ds) r t, e => by
    cases r <;> try (simp [boolsOf] at e; done)
    rename_i b
    cases q : boolsOf ds with
    | none => rw [boolsOf, q] at e; cases e
    | some bs => rw [boolsOf, q] at e; cases e; rw [rvs_bools t q]; rfl
theorem rvs_ints : ∀ {vs : List V} {ds : List D} {bs : List Int}, RVs w K H vs ds → intsOf ds = some bs → vs = bs.map V.int
  | _, _, _, .nil, e => by cases e; rfl
  | _, _, _, .cons (d := d) (ds := ds) r t, e => by
    cases r <;> try (simp [intsOf] at e; done)
    rename_i b
    cases q : intsOf ds with
    | none => rw [intsOf, q] at e; cases e
    | some bs => rw [intsOf, q] at e; cases e; rw [rvs_ints t q]; rfl
theorem atI_rv {vs : List V} {ds : List D} {i : Int} {z : D} (r : RVs w K H vs ds) (e : atI ds i = some z) : ∃ v, atI vs i = some v ∧ RV w K H v z := by
  unfold atI at e ⊢
  rw [r.length]
  cases q : ixN ds.length i with
  | none => rw [q] at e; cases e
  | some j =>
    rw [q] at e
    exact r.get e
theorem cut_len (vs : List V) (lo hi : Option Int) (h : vs.length ≤ sizeLine) : (cutV vs lo hi).length ≤ sizeLine := Nat.le_trans (cutV_length vs lo hi) h
theorem cut_rv {vs : List V} {ds : List D} (r : RVs w K H vs ds) (lo hi : Option Int) : RVs w K H (cutV vs lo hi) (cutD ds lo hi) := by
  unfold cutV cutD
  rw [r.length]
  exact (r.drop _).take _
theorem cut_whole {α : Type} {xs : List α} {lo hi : Option Int} (h : HT.sIx xs.length 0 lo = 0 ∧ HT.sIx xs.length xs.length hi = xs.length) : cutD xs lo hi = xs := by
  unfold cutD
  rw [h.1, h.2]
  simp
end

/-! ### operators -/
section
variable {X : Cx}
def rCatF (K : PySem.W.Frag) : R2 := fun x y H Q => ∃ l b xs zs, x = .ref l ∧ y = .ref b ∧ SqL K H l xs ∧ SqL K H b zs ∧ xs.length + zs.length ≤ sizeLine ∧ ∀ p, H p = none → Q (.ref p) (upd H p (.lst (xs ++ zs)))
theorem op_catF : OpR X (binaryOp .Add) (rCatF X.K) := by
  intro pins s σ H x y v u Q I rx ry ⟨l, b, xs, zs, ex, ey, hl, hb, hz, q⟩
  subst ex ey
  cases rx
  cases ry
  obtain ⟨its, r, ⟨⟨cls, d0, data, sl⟩, n, ho, hc, hd0, hd⟩, _⟩ := I.list hl
  obtain ⟨its2, r2, ⟨⟨cls2, d2, data2, sl2⟩, n2, ho2, hc2, hd2, hdd2⟩, _⟩ := I.list hb
  simp only at hc hd hc2 hdd2 hd0 hd2
  subst hc hd hc2 hdd2 hd0 hd2
  have l1 := r.length
  have l2 := r2.length
  refine concat_meets ⟨_, ho, rfl⟩ ⟨_, ho2, rfl⟩ noFill_list_add seq_list_add PySem.F.slot_list_add PySem.F.entry_list_add (PySem.F.args_list_add_2 _ _) (list_addW l b its.toArray its2.toArray n n2 none none sl sl2 (by simp only [List.size_toArray]; omega)) ⟨ho, ho2, ?_⟩
  rw [show its.toArray ++ its2.toArray = (its ++ its2).toArray by simp]
  exact ⟨.ref _, _, I.lnew (t' := s.toks) (r.append r2) (by rw [List.length_append]; exact hz), rfl, q _ I.fresh⟩
theorem lstOf_H {w : World} {K : PySem.W.Frag} {H : Hp} {S : Sto} {v : V} {d : D} {ds : List D} (hS : HRel w K S H) (r : RV w K H v d) (e : lstOf S d = some ds) :
    ∃ a vs, v = .ref a ∧ SqL K H a vs ∧ RVs w K H vs ds ∧ vs.length ≤ sizeLine := by
  cases r with
  | lst z h r => cases e; exact ⟨_, _, rfl, h.sq, r, z⟩
  | loc a =>
    simp only [lstOf] at e
    split at e
    · rename_i ds' q
      cases e
      obtain ⟨vs, h1, h2, h3⟩ := hS a _ q
      exact ⟨a, vs, rfl, .inl (.inl h1), h2, h3⟩
    · cases e
  | _ => cases e
theorem op_binD (o : Operator) : OpR X (binaryOp o) (liftO X.w X.K (binD o)) := by
  intro pins s σ H x y v u Q I rx ry ⟨d, e, S, z, rd, re, hS, ez, q⟩
  unfold binD at ez
  split at ez
  · cases rv_int rd; cases rv_int re; cases ez
    exact op_add pins s σ H _ _ v u Q I rx ry ⟨_, _, rfl, rfl, q _ _ Ext.refl (.int _) hS⟩
  · obtain ⟨g, rfl⟩ := guardO_of ez
    have g := of_decide_eq_true g
    obtain ⟨a, vs, rfl, h1, r1, z1⟩ := rv_tup rd
    obtain ⟨b, us, rfl, h2, r2, z2⟩ := rv_tup re
    have zz : (vs ++ us).length ≤ sizeLine := line_le (by rw [List.length_append, r1.length, r2.length]; exact g)
    refine op_catA pins s σ H _ _ v u Q I rx ry ⟨a, b, vs, us, rfl, rfl, h1, h2, line_le (by rw [r1.length, r2.length]; exact g), fun e => ?_, fun _ e => ?_, fun _ _ p n => ?_⟩
    · subst e
      cases r1
      exact q _ _ Ext.refl (.tup z2 h2 r2) hS
    · subst e
      cases r2
      rw [List.append_nil] at q
      exact q _ _ Ext.refl (.tup z1 h1 r1) hS
    · exact new_tup zz n (r1.app r2) hS q
  · split at ez
    · rename_i ds es e1 e2
      obtain ⟨g, rfl⟩ := guardO_of ez
      have g := of_decide_eq_true g
      obtain ⟨a, vs, rfl, h1, r1, _⟩ := lstOf_H hS rd e1
      obtain ⟨b, us, rfl, h2, r2, _⟩ := lstOf_H hS re e2
      have zz : (vs ++ us).length ≤ sizeLine := line_le (by rw [List.length_append, r1.length, r2.length]; exact g)
      exact opR_lk op_catF pins s σ H _ _ v u Q I rx ry ⟨a, b, vs, us, rfl, rfl, h1, h2, line_le (by rw [r1.length, r2.length]; exact g), fun p n => new_lst zz n (r1.app r2) hS q⟩
    · cases ez
  · cases rv_int rd; cases rv_int re; cases ez
    exact op_sub pins s σ H _ _ v u Q I rx ry ⟨_, _, rfl, rfl, q _ _ Ext.refl (.int _) hS⟩
  · cases rv_int rd; cases rv_int re
    obtain ⟨g, rfl⟩ := guardO_of ez
    simp only [mulOk, Bool.or_eq_true, Bool.and_eq_true, decide_eq_true_eq] at g
    exact op_mul pins s σ H _ _ v u Q I rx ry ⟨_, _, rfl, rfl, g, q _ _ Ext.refl (.int _) hS⟩
  · cases rv_int rd; cases rv_int re
    obtain ⟨g, rfl⟩ := guardO_of ez
    simp only [Bool.and_eq_true, decide_eq_true_eq] at g
    exact op_fdiv pins s σ H _ _ v u Q I rx ry ⟨_, _, rfl, rfl, g, q _ _ Ext.refl (.int _) hS⟩
  · cases rv_int rd; cases rv_int re
    obtain ⟨g, rfl⟩ := guardO_of ez
    have g := of_decide_eq_true g
    exact op_mod pins s σ H _ _ v u Q I rx ry ⟨_, _, rfl, rfl, g, q _ _ Ext.refl (.int _) hS⟩
  · cases rv_int rd; cases rv_int re
    obtain ⟨g, rfl⟩ := guardO_of ez
    simp only [Bool.and_eq_true, decide_eq_true_eq] at g
    exact op_pow pins s σ H _ _ v u Q I rx ry ⟨_, _, rfl, rfl, ⟨g.1.1, g.1.2, g.2⟩, q _ _ Ext.refl (.int _) hS⟩
  · cases ez
theorem un_negD : UnR X (unaryOp .USub) (fun x H Q => ∃ d S z, RV X.w X.K H x d ∧ HRel X.w X.K S H ∧ negD d = some z ∧ ∀ v H', Ext S H S H' → RV X.w X.K H' v z → HRel X.w X.K S H' → Q v H') := by
  intro pins s σ H x v Q I rx ⟨d, S, z, rd, hS, ez, q⟩
  cases d <;> try (cases ez; done)
  cases rv_int rd
  cases ez
  exact un_neg pins s σ H _ v Q I rx ⟨_, rfl, q _ _ Ext.refl (.int _) hS⟩
theorem eqD_of {S : Sto} {x y : D} {b : Bool} (h : eqD S x y = some b) : (∃ a c, x = .str a ∧ y = .str c ∧ b = decide (a = c)) ∨ ∃ p q, pdOf S x = some p ∧ pdOf S y = some q ∧ SeqAt.shaped p = true ∧ SeqAt.shaped q = true ∧ PyData.eqv p q = b := by
  unfold eqD at h
  split at h
  · exact .inl ⟨_, _, rfl, rfl, (Option.some.inj h).symm⟩
  · split at h
    · rename_i p q e1 e2
      obtain ⟨g, rfl⟩ := guardO_of h
      rw [Bool.and_eq_true] at g
      exact .inr ⟨p, q, e1, e2, g.1, g.2, rfl⟩
    · cases h
theorem flat_rv {w : World} {K : PySem.W.Frag} {H : Hp} {v : V} {d : D} (h : RV w K H v d) (f : flatD d = true) : flatV v = true := by
  cases h <;> first | rfl | cases f
theorem flats_rv {w : World} {K : PySem.W.Frag} {H : Hp} : ∀ {vs : List V} {ds : List D}, RVs w K H vs ds → ds.all flatD = true → vs.all flatV = true
  | _, _, .nil, _ => rfl
  | _, _, .cons r t, f => by
    rw [List.all_cons, Bool.and_eq_true] at f ⊢
    exact ⟨flat_rv r f.1, flats_rv t f.2⟩
theorem eqv_flat {w : World} {K : PySem.W.Frag} {H : Hp} {v u : V} {d e : D} {p q : PyData} (h : RV w K H v d) (h2 : RV w K H u e) (f : flatD d = true) (f2 : flatD e = true) (e1 : toPD d = some p) (e2 : toPD e = some q) : eqV v u = PyData.eqv p q := by
  cases h <;> cases h2 <;> first
    | (cases f; done)
    | (cases f2; done)
    | (cases e1; cases e2; simp [eqV, PyData.eqv]; done)
    | (cases e1; cases e2; simp [eqV, PyData.eqv, PyData.asInt, PyData.num?]; done)
    | (cases e1; cases e2; rfl)
theorem any_flat {w : World} {K : PySem.W.Frag} {H : Hp} {u : V} {e : D} {q : PyData} (h2 : RV w K H u e) (f2 : flatD e = true) (e2 : toPD e = some q) : ∀ {vs : List V} {ds : List D} {ps : List PyData}, RVs w K H vs ds → ds.all flatD = true → toPDs ds = some ps →
    vs.any (fun z => eqV z u) = ps.any fun z => PyData.eqv z q
  | _, _, _, .nil, _, e => by cases e; rfl
  | _, _, _, .cons (d := d) (ds := ds) r t, f, e => by
    rw [List.all_cons, Bool.and_eq_true] at f
    cases q1 : toPD d with
    | none => simp only [toPDs, q1] at e; cases e
    | some p =>
      cases q2 : toPDs ds with
      | none => simp only [toPDs, q1, q2] at e; cases e
      | some ps =>
        simp only [toPDs, q1, q2] at e
        cases e
        rw [List.any_cons, List.any_cons, eqv_flat r h2 f.1 f2 q1 e2, any_flat h2 f2 e2 t f.2 q2]
end
end DL
namespace DL
open PySem PySem.Spec PyProof.Rows L2
section
variable {X : Cx}
/-- a comparison, by its data -/
def liftB (w : World) (K : PySem.W.Frag) (f : Sto → D → D → Option Bool) : R2 := fun x y H Q => ∃ d e S z, RV w K H x d ∧ RV w K H y e ∧ HRel w K S H ∧ f S d e = some z ∧ Q (.bl z) H
theorem map_not {o : Option Bool} {z : Bool} (h : o.map Bool.not = some z) : ∃ b, o = some b ∧ z = !b := by
  cases o with
  | none => cases h
  | some b => cases h; exact ⟨b, rfl, rfl⟩
theorem inD_ok {neg : Bool} (hu : X.A.units + 65 < cLine) {pins : List (Addr × Obj)} {s : Shared} {σ : L2.St} {H : Hp} {x y : V} {v u : Value} {Q : VK} (I : Inv X pins σ H s) (rx : RelV x v) (ry : RelV y u) {d e : D} {S : Sto} {z : Bool}
    (rd : RV X.w X.K H x d) (re : RV X.w X.K H y e) (hS : HRel X.w X.K S H) (ez : inD S d e = some z) (q : Q (.bl (if neg = true then !z else z)) H) :
    wpAny (model X.prog X.w) X.A (compareOp (if neg = true then .NotIn else .In) v u) (EP X pins σ Q) X.xe s := by
  unfold inD at ez
  split at ez
  · rename_i ds
    split at ez
    · rename_i p qs e1 e2
      obtain ⟨g, rfl⟩ := guardO_of ez
      rw [Bool.and_eq_true] at g
      obtain ⟨a, vs, rfl, h1, r1, _⟩ := rv_tup re
      have ea : inV x vs = qs.any fun z => PyData.eqv z p := any_flat rd g.1 e1 r1 g.2 e2
      cases neg with
      | false => exact op_in_seq pins s σ H _ _ v u Q I rx ry ⟨a, vs, rfl, .inr h1, flat_rv rd g.1, flats_rv r1 g.2, by rw [ea]; exact q⟩
      | true => exact op_notIn_seq pins s σ H _ _ v u Q I rx ry ⟨a, vs, rfl, .inr h1, flat_rv rd g.1, flats_rv r1 g.2, by rw [ea]; exact q⟩
    · cases ez
  · split at ez
    · rename_i p qs e1 e2
      obtain ⟨g, rfl⟩ := guardO_of ez
      rw [Bool.and_eq_true] at g
      cases neg with
      | false => exact op_inD hu pins s σ H _ _ v u Q I rx ry ⟨p, qs, rv_pdOf hS rd e1, rv_pdOf hS re e2, g.1, g.2, q⟩
      | true => exact op_notInD hu pins s σ H _ _ v u Q I rx ry ⟨p, qs, rv_pdOf hS rd e1, rv_pdOf hS re e2, g.1, g.2, q⟩
    · cases ez
theorem op_cmpD (o : CmpOp) (hu : X.A.units + 65 < cLine) : OpR X (compareOp o) (liftB X.w X.K (cmpD o)) := by
  intro pins s σ H x y v u Q I rx ry ⟨d, e, S, z, rd, re, hS, ez, q⟩
  unfold cmpD at ez
  split at ez
  · cases rv_int rd; cases rv_int re; cases ez
    exact op_lt pins s σ H _ _ v u Q I rx ry ⟨_, _, rfl, rfl, q⟩
  · cases rv_int rd; cases rv_int re; cases ez
    exact op_le pins s σ H _ _ v u Q I rx ry ⟨_, _, rfl, rfl, q⟩
  · cases rv_int rd; cases rv_int re; cases ez
    exact op_gt pins s σ H _ _ v u Q I rx ry ⟨_, _, rfl, rfl, q⟩
  · cases rv_int rd; cases rv_int re; cases ez
    exact op_ge pins s σ H _ _ v u Q I rx ry ⟨_, _, rfl, rfl, q⟩
  · rcases eqD_of ez with ⟨a, c, rfl, rfl, rfl⟩ | ⟨p, r, e1, e2, g1, g2, rfl⟩
    · cases rv_str rd; cases rv_str re
      exact op_eq pins s σ H _ _ v u Q I rx ry ⟨rfl, by rw [dec_str, Bool.beq_eq_decide_eq]; exact q⟩
    exact op_eqD (by omega) pins s σ H _ _ v u Q I rx ry ⟨p, r, rv_pdOf hS rd e1, rv_pdOf hS re e2, g1, g2, q⟩
  · obtain ⟨b, ez2, rfl⟩ := map_not ez
    rcases eqD_of ez2 with ⟨a, c, rfl, rfl, rfl⟩ | ⟨p, r, e1, e2, g1, g2, rfl⟩
    · cases rv_str rd; cases rv_str re
      exact op_ne pins s σ H _ _ v u Q I rx ry ⟨rfl, by rw [dec_str, Bool.beq_eq_decide_eq]; exact q⟩
    exact op_neD (by omega) pins s σ H _ _ v u Q I rx ry ⟨p, r, rv_pdOf hS rd e1, rv_pdOf hS re e2, g1, g2, q⟩
  · cases re; cases ez
    exact op_isN pins s σ H _ _ v u Q I rx ry ⟨rfl, by rw [isNon_ok rd]; exact q⟩
  · cases re; cases ez
    exact op_notN pins s σ H _ _ v u Q I rx ry ⟨rfl, by rw [isNon_ok rd]; exact q⟩
  · exact inD_ok (neg := false) hu I rx ry rd re hS ez q
  · obtain ⟨b, ez2, rfl⟩ := map_not ez
    exact inD_ok (neg := true) hu I rx ry rd re hS ez2 q
  · cases ez
theorem ix_ixD : IxR X (liftO X.w X.K ixD) := by
  intro value slice pins s σ H x y v u Q I rx ry ⟨d, e, S, z, rd, re, hS, ez, q⟩ hs
  unfold ixD at ez
  split at ez
  · rename_i i ds e1
    cases rv_int re
    obtain ⟨a, vs, rfl, h1, r1, zz⟩ := rv_seqOf hS rd e1
    obtain ⟨y, hy, ry'⟩ := atI_rv r1 ez
    rcases h1 with h1 | h1
    · exact ix_list value slice pins s σ H _ _ v u Q I rx ry ⟨a, vs, i, y, rfl, rfl, h1, hy, q _ _ Ext.refl ry' hS⟩ hs
    · exact ix_tup value slice pins s σ H _ _ v u Q I rx ry ⟨a, vs, i, y, rfl, rfl, h1, hy, q _ _ Ext.refl ry' hS⟩ hs
  · cases ez
def liftS (w : World) (K : PySem.W.Frag) : V → Option Int → Option Int → Hp → VK → Prop := fun x lo hi H Q => ∃ d S z, RV w K H x d ∧ HRel w K S H ∧ slD S d lo hi = some z ∧ ∀ v H', Ext S H S H' → RV w K H' v z → HRel w K S H' → Q v H'
theorem sl_slD : SlR X (liftS X.w X.K) := by
  intro pins s σ H x v vl vu lo hi sl Q I rx hs pl pu ⟨d, S, z, rd, hS, ez, q⟩
  unfold slD at ez
  split at ez
  · rename_i ds
    cases ez
    obtain ⟨a, vs, rfl, h1, r1, zz⟩ := rv_tup rd
    refine sl_tupA pins s σ H _ v vl vu lo hi sl Q I rx hs pl pu ⟨a, vs, rfl, h1, fun h => ?_, fun _ p n => ?_⟩
    · rw [r1.length] at h
      rw [cut_whole h] at q
      exact q _ _ Ext.refl (.tup zz h1 r1) hS
    · exact new_tup (cut_len vs lo hi zz) n (cut_rv r1 lo hi) hS q
  · cases e1 : lstOf S d with
    | none => rw [e1] at ez; cases ez
    | some ds =>
      rw [e1] at ez
      cases ez
      obtain ⟨a, vs, rfl, h1, r1, zz⟩ := rv_lstOf hS rd e1
      exact slR_lk sl_list pins s σ H _ v vl vu lo hi sl Q I rx hs pl pu ⟨a, vs, rfl, h1, fun p n => new_lst (cut_len vs lo hi zz) n (cut_rv r1 lo hi) hS q⟩
/-! built-ins -/
def biN : Bi → String
  | .len => "len" | .max2 => "max" | .min2 => "min" | .int1 => "int" | .tuple1 => "tuple" | .list1 => "list" | .all1 => "all" | .any1 => "any" | .sum1 => "sum"
def biTy : Bi → Bool
  | .int1 => true | .tuple1 => true | .list1 => true
  | _ => false
def biV (b : Bi) : Value := if biTy b = true then .type (biN b) else .builtin (biN b)
theorem tuple1_ok (hc : X.calm = true) : CallR X (.type "tuple") (fun xs H Q => ∃ p ys, xs = [.ref p] ∧ ((SqL X.K H p ys ∧ ∀ l, H l = none → Q (.ref l) (upd H l (.tup ys))) ∨ (SqT X.K H p ys ∧ Q (.ref p) H))) := call_tuple_of
theorem call_biD (b : Bi) (hc : X.calm = true) : CallR X (biV b) (liftC X.w X.K (biD b)) := by
  intro pins s σ H xs us Q I rs ⟨ds, S, z, rd, hS, ez, q⟩
  unfold biD at ez
  split at ez
  · rename_i x
    obtain ⟨v, rfl, rv⟩ := rvs1 rd
    cases e1 : seqOf S x with
    | none => rw [e1] at ez; cases ez
    | some ds =>
      rw [e1] at ez
      cases ez
      obtain ⟨a, vs, rfl, h1, r1, zz⟩ := rv_seqOf hS rv e1
      refine call_len_seq pins s σ H _ us Q I rs ⟨a, vs, rfl, h1, ?_⟩
      rw [r1.length]
      exact q _ _ Ext.refl (.int _) hS
  · obtain ⟨v, u, rfl, r1, r2⟩ := rvs2 rd
    cases rv_int r1; cases rv_int r2; cases ez
    exact call_max2 hc pins s σ H _ us Q I rs ⟨_, _, rfl, q _ _ Ext.refl (.int _) hS⟩
  · obtain ⟨v, u, rfl, r1, r2⟩ := rvs2 rd
    cases rv_int r1; cases rv_int r2; cases ez
    exact call_min2 hc pins s σ H _ us Q I rs ⟨_, _, rfl, q _ _ Ext.refl (.int _) hS⟩
  · obtain ⟨v, rfl, rv⟩ := rvs1 rd
    cases rv_int rv; cases ez
    exact call_int1 pins s σ H _ us Q I rs (.inl ⟨_, rfl, q _ _ Ext.refl (.int _) hS⟩)
  · obtain ⟨v, rfl, rv⟩ := rvs1 rd
    cases rv_bl rv; cases ez
    exact call_int1 pins s σ H _ us Q I rs (.inr ⟨_, rfl, q _ _ Ext.refl (.int _) hS⟩)
  · rename_i x
    obtain ⟨v, rfl, rv⟩ := rvs1 rd
    cases e1 : seqOf S x with
    | none => rw [e1] at ez; cases ez
    | some ds =>
      rw [e1] at ez
      cases ez
      obtain ⟨a, vs, rfl, h1, r1, zz⟩ := rv_seqOf hS rv e1
      refine call_tuple_of pins s σ H _ us Q I rs ⟨a, vs, rfl, ?_⟩
      rcases h1 with h1 | h1
      · exact .inl ⟨h1, fun p n => new_tup zz n r1 hS q⟩
      · exact .inr ⟨h1, q _ _ Ext.refl (.tup zz h1 r1) hS⟩
  · rename_i x
    obtain ⟨v, rfl, rv⟩ := rvs1 rd
    cases e1 : seqOf S x with
    | none => rw [e1] at ez; cases ez
    | some ds =>
      rw [e1] at ez
      cases ez
      obtain ⟨a, vs, rfl, h1, r1, zz⟩ := rv_seqOf hS rv e1
      exact callR_lk call_list_of pins s σ H _ us Q I rs ⟨a, vs, rfl, h1, fun p n => new_lst zz n r1 hS q⟩
  · rename_i x
    obtain ⟨v, rfl, rv⟩ := rvs1 rd
    cases e1 : (lstOf S x).bind boolsOf with
    | none => rw [e1] at ez; cases ez
    | some bs =>
      rw [e1] at ez
      cases ez
      obtain ⟨ds, e2, e3⟩ := Option.bind_eq_some_iff.mp e1
      obtain ⟨a, vs, rfl, h1, r1, zz⟩ := rv_lstOf hS rv e2
      cases rvs_bools r1 e3
      exact cr_all hc pins s σ H _ us Q I rs ⟨a, bs, rfl, h1, q _ _ Ext.refl (.bl _) hS⟩
  · rename_i x
    obtain ⟨v, rfl, rv⟩ := rvs1 rd
    cases e1 : (lstOf S x).bind boolsOf with
    | none => rw [e1] at ez; cases ez
    | some bs =>
      rw [e1] at ez
      cases ez
      obtain ⟨ds, e2, e3⟩ := Option.bind_eq_some_iff.mp e1
      obtain ⟨a, vs, rfl, h1, r1, zz⟩ := rv_lstOf hS rv e2
      cases rvs_bools r1 e3
      exact cr_any hc pins s σ H _ us Q I rs ⟨a, bs, rfl, h1, q _ _ Ext.refl (.bl _) hS⟩
  · rename_i x
    obtain ⟨v, rfl, rv⟩ := rvs1 rd
    cases e1 : (lstOf S x).bind intsOf with
    | none => rw [e1] at ez; cases ez
    | some bs =>
      rw [e1] at ez
      cases ez
      obtain ⟨ds, e2, e3⟩ := Option.bind_eq_some_iff.mp e1
      obtain ⟨a, vs, rfl, h1, r1, zz⟩ := rv_lstOf hS rv e2
      cases rvs_ints r1 e3
      exact cr_sum hc pins s σ H _ us Q I rs ⟨a, bs, rfl, h1, q _ _ Ext.refl (.int _) hS⟩
  · cases ez
/-! isinstance -/
theorem tyD_ok {w : World} {K : PySem.W.Frag} {H : Hp} {S : Sto} {v : V} {d : D} {t : String} (hS : HRel w K S H) (h : RV w K H v d) (e : tyD S d = some t) : TyX K H v (.type t) := by
  cases h with
  | non => cases e; exact .base .non
  | bl b => cases e; exact .base (.bl b)
  | int i => cases e; exact .base (.int i)
  | str x => cases e; exact .base (.str x)
  | tup z h r =>
    cases e
    rcases h with (h | ⟨o, h⟩) | ⟨o, its, n, h, hc, _⟩
    · exact .base (.tup h)
    · exact .fTuple h
    · exact .kTuple h hc
  | lst z h r =>
    cases e
    rcases h.sq with (h | ⟨o, h⟩) | ⟨o, its, n, h, hc, _⟩
    · exact .base (.lst h)
    · exact .base (.frz h)
    · exact .kList h hc
  | dct => cases e
  | loc a =>
    simp only [tyD] at e
    split at e
    · rename_i ds q
      cases e
      obtain ⟨vs, h1, _⟩ := hS a _ q
      exact .base (.lst h1)
    · cases e
/-! methods of lists -/
def meN : Me → String
  | .append => "append" | .popAt => "pop"
def liftM (w : World) (K : PySem.W.Frag) (m : Me) : V → List V → Hp → VK → Prop := fun x xs H Q => ∃ d y e S R, xs = [y] ∧ RV w K H x d ∧ RV w K H y e ∧ HRel w K S H ∧ meD m d e S R ∧ ∀ d' S', R d' S' → ∀ v H', Ext S H S' H' → RV w K H' v d' → HRel w K S' H' → Q v H'
theorem mt_meD (m : Me) : MtR X ("list." ++ meN m) (liftM X.w X.K m) := by
  intro pins s σ H x xs v us Q I rx rs ⟨d, y, e, S, R, ex, rd, re, hS, h, q⟩
  subst ex
  unfold meD at h
  split at h
  · rename_i p
    cases rd
    split at h
    · rename_i ds e1
      obtain ⟨hz, h⟩ := h
      obtain ⟨vs, h1, r1, zz⟩ := hS _ _ e1
      have k : Ext S H (S.set p (.lst (ds ++ [e]))) (upd H p (.lst (vs ++ [y]))) := Ext.chg h1 trivial e1
      exact mt_append pins s σ H _ _ v us Q I rx rs ⟨p, vs, y, rfl, rfl, h1, by rw [sizeLine_eq, r1.length]; exact hz, q _ _ h _ _ k .non (hS.put k.kp ⟨_, upd_same, (r1.kp k.kp).app (.cons (re.kp k.kp) .nil), line_le (by rw [List.length_append, r1.length]; exact hz)⟩)⟩
    · exact h.elim
  · rename_i p
    cases rd
    split at h
    · rename_i ds i e1
      obtain ⟨j, ej, h⟩ := optW_of h
      obtain ⟨z, ez, h⟩ := optW_of h
      obtain ⟨vs, h1, r1, zz⟩ := hS _ _ e1
      cases rv_int re
      obtain ⟨z', hz', rz⟩ := r1.get ez
      obtain ⟨c1, c2, c3, c4⟩ := ixN_seq ej
      have hl := (I.lstM h1).1
      have hl2 : ds.length ≤ 16777216 := by rw [← r1.length]; exact le_line hl
      have k : Ext S H (S.set p (.lst (ds.eraseIdx j))) (upd H p (.lst (vs.eraseIdx j))) := Ext.chg h1 trivial e1
      exact mt_popAt pins s σ H _ _ v us Q I rx rs ⟨p, vs, i, j, z', rfl, rfl, h1, by omega, by omega, by rw [r1.length]; exact c1, hz', q _ _ h _ _ k (rz.kp k.kp) (hS.put k.kp ⟨_, upd_same, (r1.kp k.kp).erase j, Nat.le_trans (List.length_eraseIdx_le ..) zz⟩)⟩
    · exact h.elim
  · exact h.elim
end
end DL
namespace DL
open PySem PySem.Spec PyProof.Rows L2

/-! ### defs by their data promises -/
/-- an exception's own fields -/
def XF (w : World) (K : PySem.W.Frag) (fs : List (Str × D)) (d : Option Addr) (H : Hp) : Prop :=
  (fs = [] ∧ d = none) ∨ ∃ dd vs, d = some dd ∧ H dd = some (.xd vs) ∧ vs.map (·.1) = fs.map (·.1) ∧ RVs w K H (vs.map (·.2)) (fs.map (·.2))
def liftX (w : World) (K : PySem.W.Frag) (mg : Str → Option Value) (F : XP) (B : Bs) : XK := fun cls d H =>
  ∃ c S C, F c S ∧ HRel w K S H ∧ Ext B.1 B.2 S H ∧ mg c.cls = some (.ref C) ∧ cls = .ref C ∧ XF w K c.fs d H
def lsp (w : World) (K : PySem.W.Frag) (mg : Str → Option Value) (f : Fn) : Sp := fun vs H Q E => ∃ ds S R F, ds.length = f.ar ∧ RVs w K H vs ds ∧ HRel w K S H ∧ f.sp ds S R F ∧
  (∀ d S', R d S' → ∀ v H', Ext S H S' H' → RV w K H' v d → HRel w K S' H' → Q v H') ∧ (∀ cls d H', liftX w K mg F (S, H) cls d H' → E cls d H')

structure Tab where
  B : List Str
  Cs : List (Str × Nat)
  Fs : List (Str × Nat)
  Ds : List (Str × Nat × List Nat)
  Ks : List (Str × Nat × List Str)
structure FnAt (P : Program) (w : World) (K : PySem.W.Frag) (mg : Str → Option Value) (base : Heap) (fn : Fn) (x : Str) (f : Addr) (fd : FuncData) (ps : List Str) : Prop where
  at_ : mg x = some (.ref f)
  kp : PySem.W.keepIn K (.ref f) = true
  ok : FnOk P w K mg base (L2.CX P w) fn.lv f fd ps (lsp w K mg fn)
structure TabOk (T : Tab) (Γ : Nat → Fn) (Cs : Nat → D) (P : Program) (w : World) (K : PySem.W.Frag) (mg : Str → Option Value) (base : Heap) : Prop where
  blt : ∀ x ∈ T.B, mg x = none
  cst : ∀ x c, (x, c) ∈ T.Cs → ∃ v u, mg x = some u ∧ RelV v u ∧ ∀ H, RV w K H v (Cs c)
  fn : ∀ x i, (x, i) ∈ T.Fs → ∃ f fd ps, FnAt P w K mg base (Γ i) x f fd ps ∧ Binds K fd ps []
  fd : ∀ x i cs, (x, i, cs) ∈ T.Ds → ∃ f fd ps, FnAt P w K mg base (Γ i) x f fd ps ∧ ∃ dvs ds, Vals dvs ds ∧ (∀ H, RVs w K H dvs (cs.map Cs)) ∧ Binds K fd ps ds
  fk : ∀ x i ks, (x, i, ks) ∈ T.Ks → ∃ f fd ps n, FnAt P w K mg base (Γ i) x f fd ps ∧ n + ks.length = (Γ i).ar ∧ KBn K fd ps n ks (fun us ws => us ++ ws) (fun vs zs => vs ++ zs)
structure Good (T : Tab) (Γ : Nat → Fn) (Cs : Nat → D) (N : List Str) (k : Nat) (B : Bs) (F : XP) (sc : Scope) (X : Cx) : Prop where
  hN : X.N = N
  nd : N.Nodup
  hsc : X.env.scope = sc
  calm : X.calm = true
  room : Room k X.A
  tab : TabOk T Γ Cs X.prog X.w X.K X.mg X.base
  pas : PassesOwn (model X.prog X.w) X.A X.env X.xe
  px : ∀ E, (∀ cls d H, E cls d H → liftX X.w X.K X.mg F B cls d H) → Passes (L2.CX X.prog X.w) X E

section
variable {T : Tab} {Γ : Nat → Fn} {Cs : Nat → D} {N : List Str} {k : Nat} {B : Bs} {F : XP} {sc : Scope} {X : Cx}
theorem liftX0 {w : World} {K : PySem.W.Frag} {mg : Str → Option Value} {cls : Value} {d : Option Addr} {H : Hp} (h : liftX w K mg XP0 B cls d H) : False := let ⟨_, _, _, z, _⟩ := h; z
theorem cx_false {P : Program} {w : World} {o : List Env} {H : Hp} {s s' : Shared} {E : XK} {u : Value} (hE : ∀ cls d H, E cls d H → False) (h : L2.CX P w o H s E u s') : False := by
  obtain ⟨a, B, H', cls, d, _, _, _, _, _, _, _, e⟩ := h
  exact hE _ _ _ e
theorem Good.blk (G : Good T Γ Cs N k B F sc X) {s : Shared} {H : Hp} {scope : Scope} {C : Addr} {cl : List (Str × Addr)} {fp : List Addr} (hs : (compEnvC scope cl C X.env).scope = relS scope X.env.scope) :
    Good T Γ Cs N k B XP0 (relS scope sc) (X.blk s H scope (compEnvC scope cl C X.env) fp) :=
  ⟨G.hN, G.nd, by show (compEnvC scope cl C X.env).scope = _; rw [hs, G.hsc], G.calm, G.room, G.tab, PassesOwn.never, fun E hE pins σ H s e s' I c => (cx_false (fun cls d H z => liftX0 (hE cls d H z)) c).elim⟩
end

/-! ### the syntax's checks -/
def isPl : Expr → Bool
  | .Starred _ _ => false
  | _ => true
theorem star_pl {e : Expr} {es : List Expr} {env : Env} (h : isPl e = true) : starEach (e :: es) env = (false, eval e env) :: starEach es env := by
  cases e <;> first | rfl | cases h
def allPl : List Expr → Bool
  | [] => true
  | e :: es => isPl e && allPl es
theorem stars_pl {env : Env} {pos : Pos} : ∀ {es : List Expr}, allPl es = true → (backTo pos (starEach es env)).any (·.1) = false
  | [], _ => rfl
  | e :: es, h => by
    obtain ⟨h1, h2⟩ := Bool.and_eq_true_iff.mp (show (isPl e && allPl es) = true from h)
    rw [star_pl h1]
    show (false || (backTo pos (starEach es env)).any (·.1)) = false
    rw [stars_pl h2]; rfl
def visB (sc : Scope) (x : Str) : Bool := (match sc.names.lookup x with
  | some .local => true
  | some .cell => true
  | some .free => true
  | _ => false) && (!(x == "__debug__") && !(x == "__classdict__"))
theorem vis_of {sc : Scope} {x : Str} (h : visB sc x = true) : Vis sc x ∧ (x == ("__debug__" : Str)) = false ∧ (x == ("__classdict__" : Str)) = false := by
  unfold visB at h
  simp only [Bool.and_eq_true, Bool.not_eq_true'] at h
  refine ⟨?_, h.2.1, h.2.2⟩
  have h := h.1
  split at h
  · exact .inl (by assumption)
  · exact .inr (.inl (by assumption))
  · exact .inr (.inr (by assumption))
  · cases h
def glB (sc : Scope) (x : Str) : Bool := decide (sc.names.lookup x = some .globalImplicit) && (!(x == "__debug__") && !(x == "__name__"))
theorem gl_of {X : Cx} {sc : Scope} {x : Str} (e : X.env.scope = sc) (h : glB sc x = true) : Gl X x ∧ (x == ("__debug__" : Str)) = false ∧ x ≠ "__name__" := by
  unfold glB at h
  simp only [Bool.and_eq_true, Bool.not_eq_true', decide_eq_true_eq] at h
  refine ⟨?_, h.2.1, fun z => ?_⟩
  · show X.env.scope.names.lookup x = _
    rw [e]; exact h.1
  · have q := h.2.2
    rw [z] at q
    simp at q
/-- a subscript's plain index -/
def plIx : Expr → Bool
  | .Slice .. => false
  | _ => true
theorem plIx_ok {b : Expr} (h : plIx b = true) : PlainIx b := by
  cases b <;> first | (intro o i; rfl) | cases h
/-- no mark behind in -/
def noMk : Expr → Bool
  | .Set .. => false
  | _ => true
theorem noMk_ok {op : CmpOp} {b : Expr} (h : noMk b = true) : behindInMarks op b = false := by
  cases b <;> first | rfl | cases h
theorem noMk_last {o p : CmpOp} {b c : Expr} (h : noMk c = true) : lastMarks [o, p] [b, c] = false := by
  cases c <;> first | rfl | cases h
def noComp : Expr → Bool
  | .ListComp .. => false
  | .SetComp .. => false
  | .DictComp .. => false
  | _ => true
theorem swaps_no {e : Expr} {tg : Option Expr} {l : Nat} {env : Env} (h : noComp e = true) : swapsWith e tg l env = pure false := by
  cases e <;> first | rfl | cases h
def noSet : Expr → Bool
  | .Set .. => false
  | _ => true
theorem folded_no {e : Expr} {env : Env} (h : noSet e = true) : ∀ x, foldedSetIterable e env x = pure x := by
  intro x
  cases e <;> first | rfl | cases h
/-- what a test's plain reading is -/
def plT : Expr → Bool
  | .Name .. => true
  | .Call .. => true
  | .Subscript .. => true
  | .Constant .. => true
  | _ => false
theorem plT_ok {e : Expr} {env : Env} (h : plT e = true) : ∀ whole, isTrue e env whole = (do let v ← whole; standAt e.pos; holding [v] (truthy v)) := by
  intro whole
  cases e <;> first | rfl | cases h
theorem truth_bl {X : Cx} {B : Bs} {e : Expr} {t : DTE} (h : PE X e (liftE X.w X.K B t)) (he : ∀ whole, isTrue e X.env whole = (do let v ← whole; standAt e.pos; holding [v] (truthy v))) : PT X e (liftT X.w X.K B t) := by
  refine pt_imp (pt_val h he) fun σ H Q ⟨s, S, R, hs, hS, x0, ht, post⟩ => ?_
  refine ⟨s, S, R, hs, hS, x0, ht, fun d S' r v H' k rv h' => ?_⟩
  obtain ⟨b, rfl, q⟩ := post d S' r
  cases rv_bl rv
  exact ⟨b, rfl, q H' k h'⟩

/-! ### rules by data -/
section
variable {X : Cx} {a b c : Expr} {pos : Pos} {B : Bs} {ta tb tc : DTE}
theorem de_co {v : Const} {kk : Nat} {d : D} (h : conD v = some d) : PE X (.Constant v kk pos) (liftE X.w X.K B fun _ S Q => Q d S) := by
  cases v <;> try (cases h; done)
  · cases h; exact pe_imp pe_non fun σ H Q ⟨s, S, R, hs, hS, x0, ht, post⟩ => post _ _ ht _ _ Ext.refl .non hS
  · cases h; exact pe_imp pe_bl fun σ H Q ⟨s, S, R, hs, hS, x0, ht, post⟩ => post _ _ ht _ _ Ext.refl (.bl _) hS
  · cases h; exact pe_imp pe_int fun σ H Q ⟨s, S, R, hs, hS, x0, ht, post⟩ => post _ _ ht _ _ Ext.refl (.int _) hS
  · cases h; exact pe_imp pe_str fun σ H Q ⟨s, S, R, hs, hS, x0, ht, post⟩ => post _ _ ht _ _ Ext.refl (.str _) hS
theorem de_bin {o : Operator} (ha : PE X a (liftE X.w X.K B ta)) (hb : PE X b (liftE X.w X.K B tb)) :
    PE X (.BinOp a o b pos) (liftE X.w X.K B fun s S Q => ta s S fun x S1 => tb s S1 fun y S2 => optW (binD o S2 x y) fun z => Q z S2) := by
  refine pe_imp (pe_op (op_binD o) ha hb) fun σ H Q ⟨s, S, R, hs, hS, x0, ht, post⟩ => ?_
  refine ⟨s, S, _, hs, hS, x0, ht, fun x S1 h1 v H1 k1 rv hS1 => ⟨s, S1, _, hs.kp k1.kp, hS1, x0.trans k1, h1, fun y S2 h2 u H2 k2 ru hS2 => ?_⟩⟩
  obtain ⟨z, e, hz⟩ := optW_of h2
  exact ⟨x, y, S2, z, rv.kp k2.kp, ru, hS2, e, fun v' H' k' r h => post _ _ hz _ _ ((k1.trans k2).trans k') r h⟩
theorem de_neg (ha : PE X a (liftE X.w X.K B ta)) : PE X (.UnaryOp .USub a pos) (liftE X.w X.K B fun s S Q => ta s S fun x S1 => optW (negD x) fun z => Q z S1) := by
  refine pe_imp (pe_un un_negD ha) fun σ H Q ⟨s, S, R, hs, hS, x0, ht, post⟩ => ?_
  refine ⟨s, S, _, hs, hS, x0, ht, fun x S1 h1 v H1 k1 rv hS1 => ?_⟩
  obtain ⟨z, e, hz⟩ := optW_of h1
  exact ⟨x, S1, z, rv, hS1, e, fun v' H' k' r h => post _ _ hz _ _ (k1.trans k') r h⟩
theorem cmp_core {o : CmpOp} {σ : L2.St} {H : Hp} {Q : VK} (h : liftE X.w X.K B (fun s S Q => ta s S fun x S1 => tb s S1 fun y S2 => optW (cmpD o S2 x y) fun z => Q (.bl z) S2) σ H Q) :
    tOp (liftB X.w X.K (cmpD o)) (liftE X.w X.K B ta) (liftE X.w X.K B tb) σ H Q := by
  obtain ⟨s, S, R, hs, hS, x0, ht, post⟩ := h
  refine ⟨s, S, _, hs, hS, x0, ht, fun x S1 h1 v H1 k1 rv hS1 => ⟨s, S1, _, hs.kp k1.kp, hS1, x0.trans k1, h1, fun y S2 h2 u H2 k2 ru hS2 => ?_⟩⟩
  obtain ⟨z, e, hz⟩ := optW_of h2
  exact ⟨x, y, S2, z, rv.kp k2.kp, ru, hS2, e, post _ _ hz _ _ (k1.trans k2) (.bl z) hS2⟩
theorem tE_of_T {t : DTE} {σ : L2.St} {H : Hp} {Q : Bool → Hp → Prop} (h : liftT X.w X.K B t σ H Q) : liftE X.w X.K B t σ H (fun x H1 => ∃ k, x = .bl k ∧ Q k H1) := by
  obtain ⟨s, S, R, hs, hS, x0, ht, post⟩ := h
  refine ⟨s, S, R, hs, hS, x0, ht, fun d S' r v H' k rv h' => ?_⟩
  obtain ⟨b, rfl, q⟩ := post d S' r
  cases rv_bl rv
  exact ⟨b, rfl, q H' k h'⟩
theorem de_cmp {o : CmpOp} (hu : X.A.units + 65 < cLine) (hm : noMk b = true) (ha : PE X a (liftE X.w X.K B ta)) (hb : PE X b (liftE X.w X.K B tb)) :
    PE X (.Compare a [o] [b] pos) (liftE X.w X.K B fun s S Q => ta s S fun x S1 => tb s S1 fun y S2 => optW (cmpD o S2 x y) fun z => Q (.bl z) S2) :=
  pe_imp (pe_cmpR (op_cmpD o hu) ha hb (noMk_ok hm)) fun σ H Q h => cmp_core h
theorem dt_cmp {o : CmpOp} (hu : X.A.units + 65 < cLine) (hm : noMk b = true) (ha : PE X a (liftE X.w X.K B ta)) (hb : PE X b (liftE X.w X.K B tb)) :
    PT X (.Compare a [o] [b] pos) (liftT X.w X.K B fun s S Q => ta s S fun x S1 => tb s S1 fun y S2 => optW (cmpD o S2 x y) fun z => Q (.bl z) S2) :=
  pt_imp (pt_cmpR (op_cmpD o hu) ha hb (noMk_ok hm)) fun σ H Q h => cmp_core (tE_of_T h)
theorem chn_core {o p : CmpOp} {σ : L2.St} {H : Hp} {Q : VK} (h : liftE X.w X.K B (fun s S Q => ta s S fun x S1 => tb s S1 fun y S2 => optW (cmpD o S2 x y) fun z =>
      if z = true then tc s S2 fun u S3 => optW (cmpD p S3 y u) fun z2 => Q (.bl z2) S3 else Q (.bl false) S2) σ H Q) :
    tChain (liftB X.w X.K (cmpD o)) (liftB X.w X.K (cmpD p)) (liftE X.w X.K B ta) (liftE X.w X.K B tb) (liftE X.w X.K B tc) σ H Q := by
  obtain ⟨s, S, R, hs, hS, x0, ht, post⟩ := h
  refine ⟨s, S, _, hs, hS, x0, ht, fun x S1 h1 v H1 k1 rv hS1 => ⟨s, S1, _, hs.kp k1.kp, hS1, x0.trans k1, h1, fun y S2 h2 u H2 k2 ru hS2 => ?_⟩⟩
  obtain ⟨z, e, hz⟩ := optW_of h2
  refine ⟨x, y, S2, z, rv.kp k2.kp, ru, hS2, e, z, rfl, ?_⟩
  cases z with
  | false =>
    rw [if_neg Bool.false_ne_true] at hz ⊢
    exact post _ _ hz _ _ (k1.trans k2) (.bl _) hS2
  | true =>
    rw [if_pos rfl] at hz ⊢
    refine ⟨s, S2, _, (hs.kp k1.kp).kp k2.kp, hS2, x0.trans (k1.trans k2), hz, fun u' S3 h3 v3 H3 k3 r3 hS3 => ?_⟩
    obtain ⟨z2, e2, hz2⟩ := optW_of h3
    exact ⟨y, u', S3, z2, ru.kp k3.kp, r3, hS3, e2, post _ _ hz2 _ _ ((k1.trans k2).trans k3) (.bl _) hS3⟩
theorem de_chn {o p : CmpOp} (hu : X.A.units + 65 < cLine) (hm : noMk c = true) (ha : PE X a (liftE X.w X.K B ta)) (hb : PE X b (liftE X.w X.K B tb)) (hc : PE X c (liftE X.w X.K B tc)) :
    PE X (.Compare a [o, p] [b, c] pos) (liftE X.w X.K B fun s S Q => ta s S fun x S1 => tb s S1 fun y S2 => optW (cmpD o S2 x y) fun z =>
      if z = true then tc s S2 fun u S3 => optW (cmpD p S3 y u) fun z2 => Q (.bl z2) S3 else Q (.bl false) S2) :=
  pe_imp (pe_chain (op_cmpD o hu) (op_cmpD p hu) ha hb hc (noMk_last hm)) fun σ H Q h => chn_core h
theorem dt_chn {o p : CmpOp} (hu : X.A.units + 65 < cLine) (hm : noMk c = true) (ha : PE X a (liftE X.w X.K B ta)) (hb : PE X b (liftE X.w X.K B tb)) (hc : PE X c (liftE X.w X.K B tc)) :
    PT X (.Compare a [o, p] [b, c] pos) (liftT X.w X.K B fun s S Q => ta s S fun x S1 => tb s S1 fun y S2 => optW (cmpD o S2 x y) fun z =>
      if z = true then tc s S2 fun u S3 => optW (cmpD p S3 y u) fun z2 => Q (.bl z2) S3 else Q (.bl false) S2) :=
  pt_imp (pt_chain (op_cmpD o hu) (op_cmpD p hu) ha hb hc (noMk_last hm)) fun σ H Q h => chn_core (tE_of_T h)
abbrev tAndD (ta tb : DTE) : DTE := fun s S Q => ta s S fun x S1 => (match x with
      | .bl c => if c = true then tb s S1 Q else Q (.bl false) S1
      | _ => False)
abbrev tOrD (ta tb : DTE) : DTE := fun s S Q => ta s S fun x S1 => (match x with
      | .bl c => if c = true then Q (.bl true) S1 else tb s S1 Q
      | _ => False)
theorem bl_of {x : D} {S : Sto} {f : Bool → Prop} (h : match x with | .bl c => f c | _ => False) : ∃ c, x = .bl c ∧ f c := by
  cases x <;> try exact h.elim
  exact ⟨_, rfl, h⟩
theorem de_and {rest : List Expr} (ha : PE X a (liftE X.w X.K B ta)) (hb : PE X (.BoolOp .And (b :: rest) pos) (liftE X.w X.K B tb)) : PE X (.BoolOp .And (a :: b :: rest) pos) (liftE X.w X.K B (tAndD ta tb)) := by
  refine pe_imp (L2.pe_and ha hb) fun σ H Q ⟨s, S, R, hs, hS, x0, ht, post⟩ => ?_
  refine ⟨s, S, _, hs, hS, x0, ht, fun x S1 h1 v H1 k1 rv hS1 => ?_⟩
  obtain ⟨c, rfl, g1⟩ := bl_of (S := S1) h1
  cases rv_bl rv
  refine ⟨c, rfl, ?_⟩
  cases c with
  | false =>
    rw [if_neg Bool.false_ne_true] at g1 ⊢
    exact post _ _ g1 _ _ k1 (.bl _) hS1
  | true =>
    rw [if_pos rfl] at g1 ⊢
    exact ⟨s, S1, R, hs.kp k1.kp, hS1, x0.trans k1, g1, fun d S' r v H' k' rv h' => post d S' r v H' (k1.trans k') rv h'⟩
theorem de_or {rest : List Expr} (ha : PE X a (liftE X.w X.K B ta)) (hb : PE X (.BoolOp .Or (b :: rest) pos) (liftE X.w X.K B tb)) : PE X (.BoolOp .Or (a :: b :: rest) pos) (liftE X.w X.K B (tOrD ta tb)) := by
  refine pe_imp (L2.pe_or ha hb) fun σ H Q ⟨s, S, R, hs, hS, x0, ht, post⟩ => ?_
  refine ⟨s, S, _, hs, hS, x0, ht, fun x S1 h1 v H1 k1 rv hS1 => ?_⟩
  obtain ⟨c, rfl, g1⟩ := bl_of (S := S1) h1
  cases rv_bl rv
  refine ⟨c, rfl, ?_⟩
  cases c with
  | true =>
    rw [if_pos rfl] at g1 ⊢
    exact post _ _ g1 _ _ k1 (.bl _) hS1
  | false =>
    rw [if_neg Bool.false_ne_true] at g1 ⊢
    exact ⟨s, S1, R, hs.kp k1.kp, hS1, x0.trans k1, g1, fun d S' r v H' k' rv h' => post d S' r v H' (k1.trans k') rv h'⟩
theorem dw_and {rest : List Expr} (ha : PT X a (liftT X.w X.K B ta)) (hb : PW X (.BoolOp .And (b :: rest) pos) (liftT X.w X.K B tb)) : PW X (.BoolOp .And (a :: b :: rest) pos) (liftT X.w X.K B (tAndD ta tb)) := by
  refine pw_imp (L2.pw_and ha hb) fun σ H Q ⟨s, S, R, hs, hS, x0, ht, post⟩ => ?_
  refine ⟨s, S, _, hs, hS, x0, ht, fun x S1 h1 => ?_⟩
  obtain ⟨c, rfl, g1⟩ := bl_of (S := S1) h1
  refine ⟨c, rfl, fun H1 k1 hS1 => ?_⟩
  cases c with
  | false =>
    rw [if_neg Bool.false_ne_true] at g1 ⊢
    obtain ⟨b', e, q⟩ := post _ _ g1
    cases e
    exact q _ k1 hS1
  | true =>
    rw [if_pos rfl] at g1 ⊢
    exact ⟨s, S1, R, hs.kp k1.kp, hS1, x0.trans k1, g1, fun d S' r => let ⟨b', e, q⟩ := post d S' r; ⟨b', e, fun H' k' h' => q H' (k1.trans k') h'⟩⟩
theorem dw_or {rest : List Expr} (ha : PT X a (liftT X.w X.K B ta)) (hb : PW X (.BoolOp .Or (b :: rest) pos) (liftT X.w X.K B tb)) : PW X (.BoolOp .Or (a :: b :: rest) pos) (liftT X.w X.K B (tOrD ta tb)) := by
  refine pw_imp (L2.pw_or ha hb) fun σ H Q ⟨s, S, R, hs, hS, x0, ht, post⟩ => ?_
  refine ⟨s, S, _, hs, hS, x0, ht, fun x S1 h1 => ?_⟩
  obtain ⟨c, rfl, g1⟩ := bl_of (S := S1) h1
  refine ⟨c, rfl, fun H1 k1 hS1 => ?_⟩
  cases c with
  | true =>
    rw [if_pos rfl] at g1 ⊢
    obtain ⟨b', e, q⟩ := post _ _ g1
    cases e
    exact q _ k1 hS1
  | false =>
    rw [if_neg Bool.false_ne_true] at g1 ⊢
    exact ⟨s, S1, R, hs.kp k1.kp, hS1, x0.trans k1, g1, fun d S' r => let ⟨b', e, q⟩ := post d S' r; ⟨b', e, fun H' k' h' => q H' (k1.trans k') h'⟩⟩
abbrev tNotD (ta : DTE) : DTE := fun s S Q => ta s S fun x S1 => (match x with
      | .bl c => Q (.bl (!c)) S1
      | _ => False)
theorem de_not (ha : PE X a (liftE X.w X.K B ta)) : PE X (.UnaryOp .Not a pos) (liftE X.w X.K B (tNotD ta)) := by
  refine pe_imp (L2.pe_not ha) fun σ H Q ⟨s, S, R, hs, hS, x0, ht, post⟩ => ?_
  refine ⟨s, S, _, hs, hS, x0, ht, fun x S1 h1 v H1 k1 rv hS1 => ?_⟩
  obtain ⟨c, rfl, g1⟩ := bl_of (S := S1) h1
  cases rv_bl rv
  exact ⟨c, rfl, post _ _ g1 _ _ k1 (.bl _) hS1⟩
theorem dt_not (ha : PT X a (liftT X.w X.K B ta)) : PT X (.UnaryOp .Not a pos) (liftT X.w X.K B (tNotD ta)) := by
  refine pt_imp (L2.pt_not ha) fun σ H Q ⟨s, S, R, hs, hS, x0, ht, post⟩ => ?_
  refine ⟨s, S, _, hs, hS, x0, ht, fun x S1 h1 => ?_⟩
  obtain ⟨c, rfl, g1⟩ := bl_of (S := S1) h1
  refine ⟨c, rfl, fun H1 k1 hS1 => ?_⟩
  obtain ⟨b', e, q⟩ := post _ _ g1
  cases e
  exact q _ k1 hS1
theorem de_ife (hc : PT X c (liftT X.w X.K B tc)) (ha : PE X a (liftE X.w X.K B ta)) (hb : PE X b (liftE X.w X.K B tb)) :
    PE X (.IfExp c a b pos) (liftE X.w X.K B fun s S Q => tc s S fun x S1 => (match x with
      | .bl c => if c = true then ta s S1 Q else tb s S1 Q
      | _ => False)) := by
  refine pe_imp (L2.pe_ifExp hc ha hb) fun σ H Q ⟨s, S, R, hs, hS, x0, ht, post⟩ => ?_
  refine ⟨s, S, _, hs, hS, x0, ht, fun x S1 h1 => ?_⟩
  obtain ⟨c, rfl, g1⟩ := bl_of (S := S1) h1
  refine ⟨c, rfl, fun H1 k1 hS1 => ?_⟩
  cases c with
  | true =>
    rw [if_pos rfl] at g1 ⊢
    exact ⟨s, S1, R, hs.kp k1.kp, hS1, x0.trans k1, g1, fun d S' r v H' k' rv h' => post d S' r v H' (k1.trans k') rv h'⟩
  | false =>
    rw [if_neg Bool.false_ne_true] at g1 ⊢
    exact ⟨s, S1, R, hs.kp k1.kp, hS1, x0.trans k1, g1, fun d S' r v H' k' rv h' => post d S' r v H' (k1.trans k') rv h'⟩
theorem de_ix (hp : plIx b = true) (ha : PE X a (liftE X.w X.K B ta)) (hb : PE X b (liftE X.w X.K B tb)) :
    PE X (.Subscript a b pos) (liftE X.w X.K B fun s S Q => ta s S fun x S1 => tb s S1 fun y S2 => optW (ixD S2 x y) fun z => Q z S2) := by
  refine pe_imp (pe_ix ix_ixD ha hb (plIx_ok hp)) fun σ H Q ⟨s, S, R, hs, hS, x0, ht, post⟩ => ?_
  refine ⟨s, S, _, hs, hS, x0, ht, fun x S1 h1 v H1 k1 rv hS1 => ⟨s, S1, _, hs.kp k1.kp, hS1, x0.trans k1, h1, fun y S2 h2 u H2 k2 ru hS2 => ?_⟩⟩
  obtain ⟨z, e, hz⟩ := optW_of h2
  exact ⟨x, y, S2, z, rv.kp k2.kp, ru, hS2, e, fun v' H' k' r h => post _ _ hz _ _ ((k1.trans k2).trans k') r h⟩
abbrev DTP := SD → Sto → (Option Int → Sto → Prop) → Prop
theorem de_sl {lo hi : Option Expr} {tl th : DTP} {p2 : Pos} (ha : PE X a (liftE X.w X.K B ta)) (hl : PO X lo (liftP X.w X.K B tl)) (hh : PO X hi (liftP X.w X.K B th)) :
    PE X (.Subscript a (.Slice lo hi none p2) pos) (liftE X.w X.K B fun s S Q => ta s S fun x S1 => tl s S1 fun l S2 => th s S2 fun h S3 => optW (slD S3 x l h) fun z => Q z S3) := by
  refine pe_imp (pe_slice sl_slD ha hl hh) fun σ H Q ⟨s, S, R, hs, hS, x0, ht, post⟩ => ?_
  refine ⟨s, S, _, hs, hS, x0, ht, fun x S1 h1 v H1 k1 rv hS1 => ⟨s, S1, _, hs.kp k1.kp, hS1, x0.trans k1, h1, fun l S2 h2 H2 k2 hS2 => ⟨s, S2, _, (hs.kp k1.kp).kp k2.kp, hS2, x0.trans (k1.trans k2), h2, fun h S3 h3 H3 k3 hS3 => ?_⟩⟩⟩
  obtain ⟨z, e, hz⟩ := optW_of h3
  exact ⟨x, S3, z, (rv.kp k2.kp).kp k3.kp, hS3, e, fun v' H' k' r h => post _ _ hz _ _ (((k1.trans k2).trans k3).trans k') r h⟩
theorem dp_none : PO X none (liftP X.w X.K B fun _ S Q => Q none S) := by
  have h := po_none (X := X)
  exact ⟨fun pins s σ H Q I ⟨sd, S, R, hs, hS, x0, ht, post⟩ => h.run pins s σ H Q I (post none S ht H Ext.refl hS)⟩
theorem dp_some (ha : PE X a (liftE X.w X.K B ta)) : PO X (some a) (liftP X.w X.K B fun s S Q => ta s S fun x S1 => (match x with | .int j => Q (some j) S1 | _ => False)) := by
  have h := po_some ha
  refine ⟨fun pins s σ H Q I ⟨sd, S, R, hs, hS, x0, ht, post⟩ => h.run pins s σ H Q I ⟨sd, S, _, hs, hS, x0, ht, fun d S1 h1 v H1 k1 rv hS1 => ?_⟩⟩
  cases d <;> try exact h1.elim
  cases rv_int rv
  exact ⟨_, rfl, post _ _ h1 _ k1 hS1⟩
/-! arguments -/
theorem da_nil : PA X [] (liftA X.w X.K B 0 fun _ S Q => Q [] S) := pa_imp pa_nil fun σ H Q ⟨s, S, R, hs, hS, x0, ht, post⟩ => post _ _ ht _ _ Ext.refl .nil hS rfl
theorem da_cons {es : List Expr} {n : Nat} {tr : DTA} (hp : isPl a = true) (ha : PE X a (liftE X.w X.K B ta)) (hr : PA X es (liftA X.w X.K B n tr)) :
    PA X (a :: es) (liftA X.w X.K B (n + 1) fun s S Q => ta s S fun d S1 => tr s S1 fun ds S2 => Q (d :: ds) S2) := by
  refine pa_imp (pa_cons ha hr (star_pl hp)) fun σ H Q ⟨s, S, R, hs, hS, x0, ht, post⟩ => ?_
  refine ⟨s, S, _, hs, hS, x0, ht, fun x S1 h1 v H1 k1 rv hS1 => ⟨s, S1, _, hs.kp k1.kp, hS1, x0.trans k1, h1, fun ds S2 h2 vs H2 k2 rs hS2 hl => ?_⟩⟩
  exact post _ _ h2 _ _ (k1.trans k2) (.cons (rv.kp k2.kp) rs) hS2 (congrArg Nat.succ hl)
theorem dk_nil : PK X [] (liftA X.w X.K B 0 fun _ S Q => Q [] S) := ⟨fun p pins s σ H Q I ⟨sd, S, R, hs, hS, x0, ht, post⟩ => pk_nil.run p pins s σ H Q I (post _ _ ht _ _ Ext.refl .nil hS rfl)⟩
theorem dk_cons {kws : List Keyword} {n : Nat} {nm : Option Str} {kpos : Pos} {tr : DTA} (ha : PE X a (liftE X.w X.K B ta)) (hr : PK X kws (liftA X.w X.K B n tr)) :
    PK X (⟨nm, a, kpos⟩ :: kws) (liftA X.w X.K B (n + 1) fun s S Q => ta s S fun d S1 => tr s S1 fun ds S2 => Q (d :: ds) S2) := by
  have h := pk_cons (nm := nm) (kpos := kpos) ha hr
  refine ⟨fun p pins s0 σ H Q I ⟨s, S, R, hs, hS, x0, ht, post⟩ => h.run p pins s0 σ H Q I ?_⟩
  refine ⟨s, S, _, hs, hS, x0, ht, fun x S1 h1 v H1 k1 rv hS1 => ⟨s, S1, _, hs.kp k1.kp, hS1, x0.trans k1, h1, fun ds S2 h2 vs H2 k2 rs hS2 hl => ?_⟩⟩
  exact post _ _ h2 _ _ (k1.trans k2) (.cons (rv.kp k2.kp) rs) hS2 (congrArg Nat.succ hl)
theorem line64 {n : Nat} (h : n ≤ 64) : n ≤ sizeLine := line_le (by omega)
theorem de_tup {es : List Expr} {kk n : Nat} {tr : DTA} (hl : n ≤ 64) (hr : PA X es (liftA X.w X.K B n tr)) :
    PE X (.Tuple es kk pos) (liftE X.w X.K B fun s S Q => tr s S fun ds S1 => Q (.tup ds) S1) := by
  refine pe_imp (pe_tup hr) fun σ H Q ⟨s, S, R, hs, hS, x0, ht, post⟩ => ?_
  refine ⟨s, S, _, hs, hS, x0, ht, fun ds S1 h1 vs H1 k1 rs hS1 hn => ⟨line64 (hn ▸ hl), fun p n => ?_⟩⟩
  exact new_tup (line64 (hn ▸ hl)) n rs hS1 fun v H' k' r h => post _ _ h1 _ _ (k1.trans k') r h
theorem de_lst {es : List Expr} {n : Nat} {tr : DTA} (hl : n ≤ 64) (hr : PA X es (liftA X.w X.K B n tr)) :
    PE X (.List es pos) (liftE X.w X.K B fun s S Q => tr s S fun ds S1 => Q (.lst ds) S1) := by
  refine pe_imp (pe_lk (pe_lst hr)) fun σ H Q ⟨s, S, R, hs, hS, x0, ht, post⟩ => ?_
  refine ⟨s, S, _, hs, hS, x0, ht, fun ds S1 h1 vs H1 k1 rs hS1 hn => ⟨line64 (hn ▸ hl), fun p n => ?_⟩⟩
  exact new_lst (line64 (hn ▸ hl)) n rs hS1 fun v H' k' r h => post _ _ h1 _ _ (k1.trans k') r h
theorem de_lstm {es : List Expr} {n : Nat} {tr : DTA} (hl : n ≤ 64) (hr : PA X es (liftA X.w X.K B n tr)) :
    PE X (.List es pos) (liftE X.w X.K B fun s S Q => tr s S fun ds S1 => ∀ p, S1 p = none → Q (.loc p) (S1.set p (.lst ds))) := by
  refine pe_imp (pe_lst hr) fun σ H Q ⟨s, S, R, hs, hS, x0, ht, post⟩ => ?_
  refine ⟨s, S, _, hs, hS, x0, ht, fun ds S1 h1 vs H1 k1 rs hS1 hn => ⟨line64 (hn ▸ hl), fun p n => ?_⟩⟩
  have k : Ext S1 H1 (S1.set p (.lst ds)) (upd H1 p (.lst vs)) := Ext.newS n
  exact post _ _ (h1 p (hS1.free n)) _ _ (k1.trans k) (.loc p) (hS1.put k.kp ⟨vs, upd_same, rs.kp k.kp, line64 (hn ▸ hl)⟩)
/-! freezing -/
theorem de_frz (ha : PE X a (liftE X.w X.K B ta)) : PE X a (liftE X.w X.K B fun s S Q => ta s S fun x S1 => (match x with
      | .loc p => (match S1 p with
        | some (.lst ds) => Q (.lst ds) (S1.del p)
        | some (.dct ks vs) => Q (.dct ks vs) (S1.del p)
        | none => False)
      | _ => False)) := by
  refine pe_imp (pe_lk ha) fun σ H Q ⟨s, S, R, hs, hS, x0, ht, post⟩ => ?_
  refine ⟨s, S, _, hs, hS, x0, ht, fun x S1 h1 v H1 k1 rv hS1 => ?_⟩
  cases x <;> try exact h1.elim
  rename_i p
  cases rv
  simp only at h1
  split at h1
  · rename_i ds e
    obtain ⟨vs, e1, r1, zz⟩ := hS1 _ _ e
    refine .inr ⟨p, _, rfl, e1, trivial, fun od => ?_⟩
    have k : Ext S1 H1 (S1.del p) (upd H1 p (.frz od (.lst vs))) := Ext.del e1 trivial e
    exact post _ _ h1 _ _ (k1.trans k) (.lst zz (.frz upd_same) (r1.kp k.kp)) (hS1.drop k.kp)
  · rename_i ks ds e
    obtain ⟨o, ps, vs, z, e1, h2, h3, h4, h5, h6⟩ := hS1 _ _ e
    refine .inr ⟨p, _, rfl, e1, trivial, fun od => ?_⟩
    have k : Ext S1 H1 (S1.del p) (upd H1 p (.frz od (atO p o))) := Ext.del e1 trivial e
    exact post _ _ h1 _ _ (k1.trans k) (.dct z upd_same h2 h3 (h4.kp k.kp) h5 (h6.kp k.kp)) (hS1.drop k.kp)
  · exact h1.elim
/-! calls -/
theorem sp_of {fn : Fn} {F : XP} {H H1 : Hp} {Q : VK} {R : QD} {ds : List D} {vs : List V} {S S0 : Sto} (hl : vs.length = fn.ar) (x0 : Ext B.1 B.2 S0 H) (k1 : Ext S0 H S H1) (rs : RVs X.w X.K H1 vs ds) (hS : HRel X.w X.K S H1) (h : fn.sp ds S R F)
    (post : ∀ d S', R d S' → ∀ v H', Ext S0 H S' H' → RV X.w X.K H' v d → HRel X.w X.K S' H' → Q v H') : lsp X.w X.K X.mg fn vs H1 Q (liftX X.w X.K X.mg F B) :=
  ⟨ds, S, R, F, by rw [← rs.length]; exact hl, rs, hS, h, fun d S' r v H' k' rv h' => post d S' r v H' (k1.trans k') rv h',
    fun cls d H' ⟨c, S', C, a1, a2, a3, a4⟩ => ⟨c, S', C, a1, a2, (x0.trans k1).trans a3, a4⟩⟩
end
end DL
namespace DL
open PySem PySem.Spec PyProof.Rows L2

/-! ### what is walked -/
structure WalkD (w : World) (K : PySem.W.Frag) (J : It) (H1 : Hp) (ds : List D) (g : Gd) : Prop where
  go : ∀ i H S, Kp H1 H → HRel w K S H → g S → i < ds.length → J.go i H
  yld : ∀ i H S x H', Kp H1 H → HRel w K S H → g S → J.yld i H x H' → ∀ d, ds[i]? = some d → Ext S H S H' ∧ HRel w K S H' ∧ RV w K H' x d
  stop : ∀ H S, Kp H1 H → HRel w K S H → g S → J.stop ds.length H
  len : ds.length ≤ sizeLine
abbrev DTI := SD → Sto → (List D → Gd → Sto → Prop) → Prop
def liftI (w : World) (K : PySem.W.Frag) (B : Bs) (t : DTI) : TI := fun σ H R => ∃ s S R', RS w K H σ s ∧ HRel w K S H ∧ Ext B.1 B.2 S H ∧ t s S R' ∧ ∀ ds g S', R' ds g S' → ∀ J H', Ext S H S' H' → HRel w K S' H' → WalkD w K J H' ds g → R J H'
theorem pi_imp {X : Cx} {tg iter : Expr} {t t' : TI} (h : PI X tg iter t) (f : ∀ σ H R, t' σ H R → t σ H R) : PI X tg iter t' := ⟨fun pins s σ H R I q => h.run pins s σ H R I (f σ H R q)⟩
section
variable {w : World} {K : PySem.W.Frag} {H H1 : Hp} {S : Sto}
theorem rvs_at {vs : List V} {ds : List D} (r : RVs w K H vs ds) {i : Nat} (h : i < ds.length) : ∃ x, vs[i]? = some x := by
  have h2 : i < vs.length := by rw [r.length]; exact h
  exact ⟨vs[i], by simp [h2]⟩
theorem walk_lst {a : Addr} {ds : List D} {g : Gd} (hz : ds.length ≤ sizeLine) (hq : ∀ H S, Kp H1 H → HRel w K S H → g S → ∃ vs, SqL K H a vs ∧ RVs w K H vs ds) : WalkD w K (Itl K a) H1 ds g :=
  ⟨fun i H S k hS hg hi => let ⟨vs, q, r⟩ := hq H S k hS hg; let ⟨x, e⟩ := rvs_at r hi; ⟨vs, x, q, e⟩,
   fun i H S x H' k hS hg ⟨e1, e2⟩ d ed => by
    obtain ⟨vs, q, r⟩ := hq H S k hS hg
    subst e1
    obtain ⟨v, h1, h2⟩ := r.get ed
    have e3 := e2 vs q
    rw [h1] at e3
    cases e3
    exact ⟨Ext.refl, hS, h2⟩,
   fun H S k hS hg => let ⟨vs, q, r⟩ := hq H S k hS hg; ⟨vs, q, Nat.le_of_eq r.length⟩, hz⟩
theorem walk_tpl {a : Addr} {vs : List V} {ds : List D} (hz : vs.length ≤ sizeLine) (q0 : SqT K H1 a vs) (r0 : RVs w K H1 vs ds) {g : Gd} : WalkD w K (Itt K a) H1 ds g :=
  ⟨fun i H S k hS hg hi => let ⟨x, e⟩ := rvs_at r0 hi; ⟨vs, x, sqT_kp k q0, e⟩,
   fun i H S x H' k hS hg ⟨e1, e2⟩ d ed => by
    subst e1
    obtain ⟨v, h1, h2⟩ := (r0.kp k).get ed
    have e3 := e2 vs (sqT_kp k q0)
    rw [h1] at e3
    cases e3
    exact ⟨Ext.refl, hS, h2⟩,
   fun H S k hS hg => ⟨vs, sqT_kp k q0, Nat.le_of_eq r0.length⟩, by rw [← r0.length]; exact hz⟩
theorem rngD_len (lo hi : Int) : (rngD lo hi).length = (hi - lo).toNat := by unfold rngD; rw [List.length_map, List.length_range]
theorem walk_rng {lo hi : Int} {g : Gd} (hz : (hi - lo).toNat ≤ 16777216) : WalkD w K (Itr lo (hi - lo).toNat) H1 (rngD lo hi) g :=
  ⟨fun i H S k hS hg hi => by rw [rngD_len] at hi; exact hi,
   fun i H S x H' k hS hg ⟨e1, e2⟩ d ed => by
    subst e1 e2
    unfold rngD at ed
    rw [List.getElem?_map] at ed
    cases q : (List.range (hi - lo).toNat)[i]? with
    | none => rw [q] at ed; cases ed
    | some j =>
      rw [q] at ed
      have ej : j = i := by
        obtain ⟨h1, h2⟩ := List.getElem?_eq_some_iff.mp q
        simp at h2
        exact h2.symm
      subst ej
      cases ed
      exact ⟨Ext.refl, hS, .int _⟩,
   fun H S k hS hg => by rw [rngD_len]; exact Nat.le_refl _, by rw [rngD_len]; exact line_le hz⟩
theorem enumD_len : ∀ (k : Nat) (ds : List D), (enumD k ds).length = ds.length
  | _, [] => rfl
  | k, d :: ds => congrArg Nat.succ (enumD_len (k + 1) ds)
theorem enumD_get : ∀ (k : Nat) (ds : List D) (i : Nat), (enumD k ds)[i]? = ds[i]?.map fun d => .tup [.int ((k + i : Nat) : Int), d]
  | _, [], _ => by simp [enumD]
  | k, d :: ds, 0 => by simp [enumD]
  | k, d :: ds, i + 1 => by
    show (enumD (k + 1) ds)[i]? = _
    rw [enumD_get (k + 1) ds i]
    have e : k + 1 + i = k + (i + 1) := by omega
    rw [e]
    simp
theorem walk_enm {a : Addr} {ds : List D} {g : Gd} (hz : ds.length ≤ sizeLine) (hq : ∀ H S, Kp H1 H → HRel w K S H → g S → ∃ vs, SqL K H a vs ∧ RVs w K H vs ds) : WalkD w K (Ite K a) H1 (enumD 0 ds) g :=
  ⟨fun i H S k hS hg hi => by
    rw [enumD_len] at hi
    obtain ⟨vs, q, r⟩ := hq H S k hS hg
    obtain ⟨x, e⟩ := rvs_at r hi
    exact ⟨vs, x, q, e⟩,
   fun i H S x H' k hS hg ⟨T, y, e1, n, e2, e3⟩ d ed => by
    obtain ⟨vs, q, r⟩ := hq H S k hS hg
    subst e1 e2
    rw [enumD_get] at ed
    cases q2 : ds[i]? with
    | none => rw [q2] at ed; cases ed
    | some z =>
      rw [q2] at ed
      obtain ⟨v, h1, h2⟩ := r.get q2
      have e4 := e3 vs q
      rw [h1] at e4
      cases e4
      cases ed
      have ke : Ext S H S (upd H T (.tup [.int (i : Nat), y])) := Ext.new n
      refine ⟨ke, hS.new n, .tup (line64 (by simp)) (SqT.of upd_same) (.cons ?_ (.cons (h2.kp ke.kp) .nil))⟩
      rw [Nat.zero_add]
      exact .int _,
   fun H S k hS hg => by
    obtain ⟨vs, q, r⟩ := hq H S k hS hg
    rw [enumD_len]
    exact ⟨vs, q, Nat.le_of_eq r.length⟩, by rw [enumD_len]; exact hz⟩
theorem zipD_len : ∀ (xs ys : List D), (zipD xs ys).length = min xs.length ys.length
  | [], _ => by simp [zipD]
  | _ :: _, [] => by simp [zipD]
  | x :: xs, y :: ys => by simp [zipD, zipD_len xs ys]
theorem zipD_get : ∀ (xs ys : List D) (i : Nat) (d : D), (zipD xs ys)[i]? = some d → ∃ x y, xs[i]? = some x ∧ ys[i]? = some y ∧ d = .tup [x, y]
  | [], _, _, _, h => by simp [zipD] at h
  | _ :: _, [], _, _, h => by simp [zipD] at h
  | x :: xs, y :: ys, 0, d, h => by
    simp [zipD] at h
    exact ⟨x, y, rfl, rfl, h.symm⟩
  | x :: xs, y :: ys, i + 1, d, h => by
    obtain ⟨a, b, h1, h2, h3⟩ := zipD_get xs ys i d h
    exact ⟨a, b, h1, h2, h3⟩
theorem zip_new {i : Nat} {T : Addr} {x y : V} {a b d : D} (hS : HRel w K S H) (n : H T = none) (r1 : RV w K H x a) (r2 : RV w K H y b) (e : d = .tup [a, b]) : Ext S H S (upd H T (.tup [x, y])) ∧ HRel w K S (upd H T (.tup [x, y])) ∧ RV w K (upd H T (.tup [x, y])) (.ref T) d := by
  subst e
  have ke : Ext S H S (upd H T (.tup [x, y])) := Ext.new n
  exact ⟨ke, hS.new n, .tup (line64 (by simp)) (SqT.of upd_same) (.cons (r1.kp ke.kp) (.cons (r2.kp ke.kp) .nil))⟩
theorem walk_zpL {a b : Addr} {ds es : List D} {g : Gd} (hz : ds.length ≤ sizeLine) (hq : ∀ H S, Kp H1 H → HRel w K S H → g S → ∃ vs us, SqL K H a vs ∧ RVs w K H vs ds ∧ SqL K H b us ∧ RVs w K H us es) : WalkD w K (Itz K a b) H1 (zipD ds es) g :=
  ⟨fun i H S k hS hg hi => by
    rw [zipD_len] at hi
    obtain ⟨vs, us, q, r, q', r'⟩ := hq H S k hS hg
    obtain ⟨x, e⟩ := rvs_at r (show i < ds.length by omega)
    obtain ⟨y, e'⟩ := rvs_at r' (show i < es.length by omega)
    exact ⟨vs, us, x, y, q, q', e, e'⟩,
   fun i H S x H' k hS hg ⟨T, y, z, e1, n, e2, e3, e4⟩ d ed => by
    obtain ⟨vs, us, q, r, q', r'⟩ := hq H S k hS hg
    subst e1 e2
    obtain ⟨d1, d2, g1, g2, ee⟩ := zipD_get _ _ _ _ ed
    obtain ⟨v, h1, h2⟩ := r.get g1
    obtain ⟨v', h1', h2'⟩ := r'.get g2
    have e5 := e3 vs q
    have e6 := e4 us q'
    rw [h1] at e5; rw [h1'] at e6
    cases e5; cases e6
    exact zip_new (i := i) hS n h2 h2' ee,
   fun H S k hS hg => by
    obtain ⟨vs, us, q, r, q', r'⟩ := hq H S k hS hg
    rw [zipD_len]
    have l1 := r.length
    have l2 := r'.length
    exact ⟨vs, us, q, q', by omega⟩, by rw [zipD_len]; exact Nat.le_trans (Nat.min_le_left _ _) hz⟩
theorem walk_zpT {a b : Addr} {vs us : List V} {ds es : List D} {g : Gd} (hz : vs.length ≤ sizeLine) (q0 : SqT K H1 a vs) (r0 : RVs w K H1 vs ds) (q1 : SqT K H1 b us) (r1 : RVs w K H1 us es) : WalkD w K (RZ.ItzT K a b) H1 (zipD ds es) g :=
  ⟨fun i H S k hS hg hi => by
    rw [zipD_len] at hi
    obtain ⟨x, e⟩ := rvs_at r0 (show i < ds.length by omega)
    obtain ⟨y, e'⟩ := rvs_at r1 (show i < es.length by omega)
    exact ⟨vs, us, x, y, sqT_kp k q0, sqT_kp k q1, e, e'⟩,
   fun i H S x H' k hS hg ⟨T, y, z, e1, n, e2, e3, e4⟩ d ed => by
    subst e1 e2
    obtain ⟨d1, d2, g1, g2, ee⟩ := zipD_get _ _ _ _ ed
    obtain ⟨v, h1, h2⟩ := (r0.kp k).get g1
    obtain ⟨v', h1', h2'⟩ := (r1.kp k).get g2
    have e5 := e3 vs (sqT_kp k q0)
    have e6 := e4 us (sqT_kp k q1)
    rw [h1] at e5; rw [h1'] at e6
    cases e5; cases e6
    exact zip_new (i := i) hS n h2 h2' ee,
   fun H S k hS hg => by
    rw [zipD_len]
    have l1 := r0.length
    have l2 := r1.length
    exact ⟨vs, us, sqT_kp k q0, sqT_kp k q1, by omega⟩, by rw [zipD_len, ← r0.length]; exact Nat.le_trans (Nat.min_le_left _ _) hz⟩
end
section
variable {X : Cx} {B : Bs} {a b : Expr} {tg : Expr} {ta tb : DTE}
/-- a list or a tuple, as it comes -/
def iSeq (K : PySem.W.Frag) (tl : TE) : TI := fun σ H R => tl σ H fun x H1 => ∃ a, x = .ref a ∧ (((∃ xs, SqL K H1 a xs) ∧ R (Itl K a) H1) ∨ ((∃ xs, SqT K H1 a xs) ∧ R (Itt K a) H1))
theorem pi_seq {l : Expr} {tl : TE} (hl : PE X l tl) : PI X tg l (iSeq X.K tl) := by
  refine ⟨fun pins s σ H R I h => thn (hl.run pins s σ H _ I h) fun v s1 hv => ?_⟩
  obtain ⟨x, H1, I1, r1, a, rfl, q⟩ := hv
  cases r1
  have fresh : ∀ c, c ∈ [s1.heap.objs.size] → FpOk X pins H1 c := fun c hc => by
    cases List.mem_singleton.mp hc
    exact I1.fpOk (Nat.le_refl _) (I1.hok.fresh (Nat.le_refl _))
  rcases q with ⟨⟨xs, hq⟩, q⟩ | ⟨⟨xs, hq⟩, q⟩
  · obtain ⟨its, rv, p, hz⟩ := I1.list hq
    exact wpAny_pyIter_list p.isList ⟨_, [s1.heap.objs.size], _, _, H1, rfl, I1.kept (t' := s1.toks) fun _ _ e => Heap.get?_push_of_some _ e, turn_list a _, ⟨_, Heap.get?_push_size _ rfl, rfl, rfl⟩, fresh, q⟩
  · obtain ⟨its, rv, p, hz⟩ := I1.tuple hq
    exact wpAny_pyIter_tuple (show s1.heap.IsTuple a its.toArray from p) ⟨_, [s1.heap.objs.size], _, _, H1, rfl, I1.kept (t' := s1.toks) fun _ _ e => Heap.get?_push_of_some _ e, turn_tuple a _, ⟨_, Heap.get?_push_size _ rfl, rfl, rfl⟩, fresh, q⟩
theorem lst_walk {H H1 : Hp} {S : Sto} {v : V} {d : D} {ds : List D} (hS : HRel X.w X.K S H1) (r : RV X.w X.K H1 v d) (e : lstOf S d = some ds) :
    ∃ a, v = .ref a ∧ ds.length ≤ sizeLine ∧ (∃ xs, SqL X.K H1 a xs) ∧ ∀ H S', Kp H1 H → HRel X.w X.K S' H → gOf S d S' → ∃ vs, SqL X.K H a vs ∧ RVs X.w X.K H vs ds := by
  cases r with
  | lst z h r => cases e; exact ⟨_, rfl, by rw [← r.length]; exact z, ⟨_, h.sq⟩, fun H S' k _ _ => ⟨_, (h.kp k).sq, r.kp k⟩⟩
  | loc a =>
    simp only [lstOf] at e
    split at e
    · rename_i ds' q
      cases e
      obtain ⟨vs, h1, h2, h3⟩ := hS a _ q
      refine ⟨a, rfl, by rw [← h2.length]; exact h3, ⟨vs, SqL.of h1⟩, fun H S' k h' g => ?_⟩
      have g : S' a = S a := g
      rw [q] at g
      obtain ⟨vs', h3, h4, _⟩ := h' a _ g
      exact ⟨vs', SqL.of h3, h4⟩
    · cases e
  | _ => cases e
theorem di_seq (ha : PE X a (liftE X.w X.K B ta)) : PI X tg a (liftI X.w X.K B fun s S Q => ta s S fun x S1 => optW (seqOf S1 x) fun ds => Q ds (gOf S1 x) S1) := by
  refine pi_imp (pi_seq ha) fun σ H R ⟨s, S, R', hs, hS, x0, ht, post⟩ => ?_
  refine ⟨s, S, _, hs, hS, x0, ht, fun x S1 h1 v H1 k1 rv hS1 => ?_⟩
  obtain ⟨ds, e, h1⟩ := optW_of h1
  by_cases hx : ∃ es, x = .tup es
  · obtain ⟨es, rfl⟩ := hx
    cases e
    obtain ⟨a, vs, rfl, q, r, z⟩ := rv_tup rv
    exact ⟨a, rfl, .inr ⟨⟨vs, q⟩, post _ _ _ h1 _ _ k1 hS1 (walk_tpl z q r)⟩⟩
  · have e2 : lstOf S1 x = some ds := by
      cases x <;> first | exact e | exact absurd ⟨_, rfl⟩ hx
    obtain ⟨a, rfl, z, q, f⟩ := lst_walk (H := H) hS1 rv e2
    exact ⟨a, rfl, .inl ⟨q, post _ _ _ h1 _ _ k1 hS1 (walk_lst z f)⟩⟩
theorem di_rng1 {p pos : Pos} (hg : Gl X "range") (hm : X.mg "range" = none) (hp : isPl a = true) (ha : PE X a (liftE X.w X.K B ta)) :
    PI X tg (.Call (.Name "range" p) [a] [] pos) (liftI X.w X.K B fun s S Q => ta s S fun x S1 => (match x with
      | .int n => rngOk 0 n ∧ Q (rngD 0 n) (fun _ => True) S1
      | _ => False)) := by
  refine pi_imp (pi_range1 hg hm (pa_cons ha pa_nil (star_pl hp)) (star_pl hp)) fun σ H R ⟨s, S, R', hs, hS, x0, ht, post⟩ => ?_
  refine ⟨s, S, _, hs, hS, x0, ht, fun x S1 h1 v H1 k1 rv hS1 => ?_⟩
  cases x <;> try exact h1.elim
  rename_i n
  cases rv_int rv
  refine ⟨n, rfl, h1.1.2.1.1, h1.1.2.1.2, ?_⟩
  have z : (n - 0).toNat = n.toNat := by simp
  have y := post _ _ _ h1.2 (Itr 0 (n - 0).toNat) _ k1 hS1 (walk_rng h1.1.2.2)
  rw [z] at y
  exact y
theorem di_rng2 {p pos : Pos} (hg : Gl X "range") (hm : X.mg "range" = none) (hp : isPl a = true) (hp2 : isPl b = true) (ha : PE X a (liftE X.w X.K B ta)) (hb : PE X b (liftE X.w X.K B tb)) :
    PI X tg (.Call (.Name "range" p) [a, b] [] pos) (liftI X.w X.K B fun s S Q => ta s S fun x S1 => tb s S1 fun y S2 => (match x, y with
      | .int m, .int n => rngOk m n ∧ Q (rngD m n) (fun _ => True) S2
      | _, _ => False)) := by
  have e1 : starEach [b] X.env = [(false, eval b X.env)] := star_pl hp2
  have e2 : starEach [a, b] X.env = [(false, eval a X.env), (false, eval b X.env)] := by rw [star_pl hp, e1]
  refine pi_imp (pi_range2 hg hm (pa_cons ha (pa_cons hb pa_nil e1) (star_pl hp)) e2 e1) fun σ H R ⟨s, S, R', hs, hS, x0, ht, post⟩ => ?_
  refine ⟨s, S, _, hs, hS, x0, ht, fun x S1 h1 v H1 k1 rv hS1 => ⟨s, S1, _, hs.kp k1.kp, hS1, x0.trans k1, h1, fun y S2 h2 u H2 k2 ru hS2 => ?_⟩⟩
  split at h2
  · cases rv_int rv; cases rv_int ru
    obtain ⟨⟨c1, c2, c3⟩, h2⟩ := h2
    exact ⟨_, _, rfl, ⟨c1.1, c1.2, c2.1, c2.2⟩, post _ _ _ h2 _ _ (k1.trans k2) hS2 (walk_rng c3)⟩
  · exact h2.elim
theorem di_enum {p pos tpos : Pos} {elts : List Expr} {kk : Nat} (hg : Gl X "enumerate") (hm : X.mg "enumerate" = none) (hp : isPl a = true) (ha : PE X a (liftE X.w X.K B ta)) :
    PI X (.Tuple elts kk tpos) (.Call (.Name "enumerate" p) [a] [] pos) (liftI X.w X.K B fun s S Q => ta s S fun x S1 => optW (lstOf S1 x) fun ds => Q (enumD 0 ds) (gOf S1 x) S1) := by
  refine pi_imp (pi_enum hg hm (pa_cons ha pa_nil (star_pl hp)) (star_pl hp)) fun σ H R ⟨s, S, R', hs, hS, x0, ht, post⟩ => ?_
  refine ⟨s, S, _, hs, hS, x0, ht, fun x S1 h1 v H1 k1 rv hS1 => ?_⟩
  obtain ⟨ds, e, h1⟩ := optW_of h1
  obtain ⟨a, rfl, z, ⟨xs, q⟩, f⟩ := lst_walk (H := H) hS1 rv e
  exact ⟨a, xs, rfl, q, post _ _ _ h1 _ _ k1 hS1 (walk_enm z f)⟩
theorem di_zip {p pos tpos : Pos} {elts : List Expr} {kk : Nat} (hg : Gl X "zip") (hm : X.mg "zip" = none) (hp : isPl a = true) (hp2 : isPl b = true) (ha : PE X a (liftE X.w X.K B ta)) (hb : PE X b (liftE X.w X.K B tb)) :
    PI X (.Tuple elts kk tpos) (.Call (.Name "zip" p) [a, b] [] pos) (liftI X.w X.K B fun s S Q => ta s S fun x S1 => tb s S1 fun y S2 => (match x, y with
      | .tup ds, .tup es => Q (zipD ds es) (fun _ => True) S2
      | x, y => optW (lstOf S2 x) fun ds => optW (lstOf S2 y) fun es => Q (zipD ds es) (fun S' => gOf S2 x S' ∧ gOf S2 y S') S2)) := by
  refine pi_imp (RZ.pi_zipA hg hm (pa_cons ha (pa_cons hb pa_nil (star_pl hp2)) (star_pl hp)) (star_pl hp) (by rw [star_pl hp2]; rfl)) fun σ H R ⟨s, S, R', hs, hS, x0, ht, post⟩ => ?_
  refine ⟨s, S, _, hs, hS, x0, ht, fun x S1 h1 v H1 k1 rv hS1 => ⟨s, S1, _, hs.kp k1.kp, hS1, x0.trans k1, h1, fun y S2 h2 u H2 k2 ru hS2 => ?_⟩⟩
  have rv2 := rv.kp k2.kp
  split at h2
  · obtain ⟨a1, vs, rfl, q1, r1, z⟩ := rv_tup rv2
    obtain ⟨a2, us, rfl, q2, r2, _⟩ := rv_tup ru
    exact ⟨a1, a2, vs, us, rfl, .inr ⟨q1, q2, post _ _ _ h2 _ _ (k1.trans k2) hS2 (walk_zpT z q1 r1 q2 r2)⟩⟩
  · obtain ⟨ds, e1, h2⟩ := optW_of h2
    obtain ⟨es, e2, h2⟩ := optW_of h2
    obtain ⟨a1, rfl, z, ⟨xs, q1⟩, f1⟩ := lst_walk (H := H) hS2 rv2 e1
    obtain ⟨a2, rfl, _, ⟨ys, q2⟩, f2⟩ := lst_walk (H := H) hS2 ru e2
    refine ⟨a1, a2, xs, ys, rfl, .inl ⟨q1, q2, post _ _ _ h2 _ _ (k1.trans k2) hS2 (walk_zpL z fun H S' k hS' g => ?_)⟩⟩
    obtain ⟨vs, g1, g2⟩ := f1 H S' k hS' g.1
    obtain ⟨us, g3, g4⟩ := f2 H S' k hS' g.2
    exact ⟨vs, us, g1, g2, g3, g4⟩
end

/-! ### targets -/
mutual
def slT : Tg → List Nat
  | .nm i => [i]
  | .tup ts => slTs ts
def slTs : Tgs → List Nat
  | .nil => []
  | .cons t ts => slT t ++ slTs ts
end
theorem wipe_set {σ : L2.St} {i : Nat} {x : Option V} {vs : List Nat} (h : i ∈ vs) : wipe (σ.set i x) vs = wipe σ vs := by
  have len : (wipe (σ.set i x) vs).length = (wipe σ vs).length := by rw [wipe_length, wipe_length, List.length_set]
  refine List.ext_getElem? fun j => ?_
  have key : ∀ (σ : L2.St) (vs : List Nat), j ∈ vs → (wipe σ vs)[j]? = if j < σ.length then some none else none := by
    intro σ vs
    induction vs with
    | nil => intro h; cases h
    | cons v vs ih =>
      intro h
      rw [wipe, List.getElem?_set]
      by_cases e : v = j
      · subst e
        rw [if_pos rfl, wipe_length]
      · rw [if_neg e]
        exact ih ((List.mem_cons.mp h).elim (fun z => absurd z.symm e) id)
  by_cases hj : j ∈ vs
  · rw [key _ _ hj, key _ _ hj, List.length_set]
  · rw [wipe_keep hj, wipe_keep hj]
    refine List.getElem?_set_ne fun e => hj ?_
    rw [← e]; exact h
section
variable (w : World) (K : PySem.W.Frag)
def liftG (t : Tg) : TG := fun v σ H Q => ∃ s d k, RS w K H σ s ∧ RV w K H v d ∧ wTg t d s k ∧ ∀ s', k s' → ∀ σ', RS w K H σ' s' → (∀ vs, (∀ i ∈ slT t, i ∈ vs) → wipe σ' vs = wipe σ vs) → Q σ' H
def liftGs (t : Tgs) : TGs := fun vs σ H Q => ∃ s ds k, RS w K H σ s ∧ RVs w K H vs ds ∧ wTgs t ds s k ∧ ∀ s', k s' → ∀ σ', RS w K H σ' s' → (∀ vs, (∀ i ∈ slTs t, i ∈ vs) → wipe σ' vs = wipe σ vs) → Q σ' H
end
def lenTs : Tgs → Nat
  | .nil => 0
  | .cons _ ts => lenTs ts + 1
section
variable {X : Cx}
theorem pg_imp {e : Expr} {t t' : TG} (h : PG X e t) (f : ∀ v σ H Q, t' v σ H Q → t v σ H Q) : PG X e t' := ⟨fun pins s σ H v u Q I r q => h.run pins s σ H v u Q I r (f v σ H Q q)⟩
theorem pgs_imp {e : List Expr} {t t' : TGs} (h : PGs X e t) (f : ∀ v σ H Q, t' v σ H Q → t v σ H Q) : PGs X e t' := ⟨fun pins s σ H v u Q I r q => h.run pins s σ H v u Q I r (f v σ H Q q)⟩
theorem dg_nm {i : Nat} {x : Str} {pos : Pos} (hN : X.N.Nodup) (hi : X.N[i]? = some x) (hx : Loc X.env.scope x) (hf : X.fn x = true ∨ X.env.scope.names.lookup x = some .local) : PG X (.Name x pos) (liftG X.w X.K (.nm i)) := by
  refine pg_imp (pg_name hN hi hx hf) fun v σ H Q ⟨s, d, k, hs, rv, h, post⟩ => ?_
  exact post _ h _ (hs.set rv) fun vs hv => wipe_set (hv i (List.mem_singleton.mpr rfl))
theorem dgs_nil : PGs X [] (liftGs X.w X.K .nil) := by
  refine pgs_imp pgs_nil fun vs σ H Q ⟨s, ds, k, hs, rv, h, post⟩ => ?_
  cases rv with
  | nil => exact ⟨rfl, post _ h _ hs fun _ _ => rfl⟩
  | cons => exact h.elim
theorem dgs_cons {e : Expr} {es : List Expr} {t : Tg} {ts : Tgs} (hp : isPl e = true) (h1 : PG X e (liftG X.w X.K t)) (h2 : PGs X es (liftGs X.w X.K ts)) : PGs X (e :: es) (liftGs X.w X.K (.cons t ts)) := by
  have hs0 : (assignEach (e :: es) X.env).map (·.2) = assign e X.env :: (assignEach es X.env).map (·.2) := by
    cases e <;> first | rfl | cases hp
  refine pgs_imp (pgs_cons h1 h2 hs0) fun vs σ H Q ⟨s, ds, k, hs, rv, h, post⟩ => ?_
  cases rv with
  | nil => exact h.elim
  | cons r rs =>
    refine ⟨_, _, rfl, s, _, _, hs, r, h, fun s' h' σ' hs' w1 => ⟨s', _, k, hs', rs, h', fun s2 h2 σ2 hs2 w2 => ?_⟩⟩
    refine post _ h2 _ hs2 fun vs hv => ?_
    rw [w2 vs fun i hi => hv i (List.mem_append_right _ hi), w1 vs fun i hi => hv i (List.mem_append_left _ hi)]
theorem wTgs_len : ∀ (ts : Tgs) (ds : List D) (s : SD) (k : SD → Prop), wTgs ts ds s k → ds.length = lenTs ts
  | .nil, [], _, _, _ => rfl
  | .nil, _ :: _, _, _, h => h.elim
  | .cons _ _, [], _, _, h => h.elim
  | .cons t ts, d :: ds, s, k, h => by
    have mono : ∀ (t : Tg) (d : D) (s : SD) (k : SD → Prop), wTg t d s k → ∃ s', k s' := by
      intro t
      refine Tg.rec (motive_1 := fun t => ∀ (d : D) (s : SD) (k : SD → Prop), wTg t d s k → ∃ s', k s') (motive_2 := fun ts => ∀ (ds : List D) (s : SD) (k : SD → Prop), wTgs ts ds s k → ∃ s', k s') ?_ ?_ ?_ ?_ t
      · intro i d s k h; exact ⟨_, h⟩
      · intro ts ih d s k h
        cases d <;> try exact h.elim
        exact ih _ _ _ h
      · intro ds s k h
        cases ds with
        | nil => exact ⟨_, h⟩
        | cons => exact h.elim
      · intro t ts ih1 ih2 ds s k h
        cases ds with
        | nil => exact h.elim
        | cons d ds =>
          obtain ⟨s', h'⟩ := ih1 _ _ _ h
          exact ih2 _ _ _ h'
    obtain ⟨s', h'⟩ := mono t d s _ h
    exact congrArg Nat.succ (wTgs_len ts ds s' k h')
theorem assigns_len {env : Env} : ∀ {es : List Expr}, (assignEach es env).length = es.length
  | [] => rfl
  | e :: es => by cases e <;> exact congrArg Nat.succ (assigns_len (es := es))
theorem assigns_pl {env : Env} : ∀ {es : List Expr}, allPl es = true → (assignEach es env).findIdx? (·.1) = none
  | [], _ => rfl
  | e :: es, h => by
    obtain ⟨h1, h2⟩ := Bool.and_eq_true_iff.mp (show (isPl e && allPl es) = true from h)
    have e0 : assignEach (e :: es) env = (false, assign e env) :: assignEach es env := by cases e <;> first | rfl | cases h1
    rw [e0, List.findIdx?_cons, assigns_pl h2]
    rfl
theorem dg_tup {es : List Expr} {kk : Nat} {pos : Pos} {ts : Tgs} (hc : X.calm = true) (hp : allPl es = true) (hl : es.length = lenTs ts) (h : PGs X es (liftGs X.w X.K ts)) : PG X (.Tuple es kk pos) (liftG X.w X.K (.tup ts)) := by
  refine pg_imp (pg_tup hc h (n := lenTs ts) (by rw [assigns_len]; exact hl) (assigns_pl hp)) fun v σ H Q ⟨s, d, k, hs, rv, h, post⟩ => ?_
  cases d <;> try exact h.elim
  rename_i ds
  obtain ⟨a, vs, rfl, q, r, _⟩ := rv_tup rv
  refine ⟨a, vs, rfl, q, by rw [r.length]; exact wTgs_len _ _ _ _ h, s, ds, k, hs, r, h, post⟩
end

/-! ### statements -/
section
variable (w : World) (K : PySem.W.Frag)
structure EndsOk (S : Sto) (H : Hp) (k : KD) (D : Ends) : Prop where
  nx : ∀ s' S', k.nx s' S' → ∀ σ' H', Ext S H S' H' → RS w K H' σ' s' → HRel w K S' H' → D.nx σ' H'
  rt : ∀ d S', k.rt d S' → ∀ v H', Ext S H S' H' → RV w K H' v d → HRel w K S' H' → D.rt v H'
  bk : ∀ s' S', k.bk s' S' → ∀ σ' H', Ext S H S' H' → RS w K H' σ' s' → HRel w K S' H' → D.bk σ' H'
  ct : ∀ s' S', k.ct s' S' → ∀ σ' H', Ext S H S' H' → RS w K H' σ' s' → HRel w K S' H' → D.ct σ' H'
abbrev DTS := KD → SD → Sto → Prop
def liftSt (B : Bs) (t : DTS) : TS := fun D σ H => ∃ s S k, RS w K H σ s ∧ HRel w K S H ∧ Ext B.1 B.2 S H ∧ t k s S ∧ EndsOk w K S H k D
end
theorem EndsOk.ext {w : World} {K : PySem.W.Frag} {S S1 : Sto} {H H1 : Hp} {k : KD} {D : Ends} (e : EndsOk w K S H k D) (x : Ext S H S1 H1) : EndsOk w K S1 H1 k D :=
  ⟨fun s' S' h σ' H' x' => e.nx s' S' h σ' H' (x.trans x'), fun s' S' h σ' H' x' => e.rt s' S' h σ' H' (x.trans x'), fun s' S' h σ' H' x' => e.bk s' S' h σ' H' (x.trans x'), fun s' S' h σ' H' x' => e.ct s' S' h σ' H' (x.trans x')⟩
section
variable {X : Cx} {B : Bs} {pos : Pos} {ta tb : DTE} {t1 t2 : DTS}
theorem dss_nil : PSs X [] (liftSt X.w X.K B fun k s S => k.nx s S) := pss_imp pss_nil fun D σ H ⟨s, S, k, hs, hS, x0, h, e⟩ => e.nx _ _ h _ _ Ext.refl hs hS
theorem dss_cons {st : Stmt} {rest : List Stmt} (h1 : PS X st (liftSt X.w X.K B t1)) (h2 : PSs X rest (liftSt X.w X.K B t2)) : PSs X (st :: rest) (liftSt X.w X.K B fun k s S => t1 { k with nx := t2 k } s S) := by
  refine pss_imp (pss_cons h1 h2) fun D σ H ⟨s, S, k, hs, hS, x0, h, e⟩ => ?_
  exact ⟨s, S, _, hs, hS, x0, h, fun s' S' h' σ' H' x' hs' hS' => ⟨s', S', k, hs', hS', x0.trans x', h', e.ext x'⟩, e.rt, e.bk, e.ct⟩
theorem ds_asg {tg a : Expr} {t : Tg} (he : PE X a (liftE X.w X.K B ta)) (hg : PG X tg (liftG X.w X.K t)) (hs : swapsWithSole [tg] a pos.line X.env = pure false) (hw : swappedStores [tg] a X.env = pure none) (h1 : (assignEach [tg] X.env).map (·.2) = [assign tg X.env]) :
    PS X (.Assign [tg] a pos) (liftSt X.w X.K B fun k s S => ta s S fun d S1 => wTg t d s fun s1 => k.nx s1 S1) := by
  refine ps_imp (ps_asg he hg hs hw h1) fun D σ H ⟨s, S, k, hs, hS, x0, h, e⟩ => ?_
  exact ⟨s, S, _, hs, hS, x0, h, fun d S1 h1 v H1 x1 rv hS1 => ⟨s, d, _, hs.kp x1.kp, rv, h1, fun s' h' σ' hs' _ => e.nx _ _ h' _ _ x1 hs' hS1⟩⟩
theorem ds_set {a : Expr} {i : Nat} {x : Str} {p : Pos} (hN : X.N.Nodup) (hi : X.N[i]? = some x) (hx : Loc X.env.scope x) (hf : X.fn x = true ∨ X.env.scope.names.lookup x = some .local) (he : PE X a (liftE X.w X.K B ta)) (hs : swapsWith a (some (.Name x p)) pos.line X.env = pure false) :
    PS X (.Assign [.Name x p] a pos) (liftSt X.w X.K B fun k s S => ta s S fun d S1 => wTg (.nm i) d s fun s1 => k.nx s1 S1) := by
  refine ps_imp (ps_set hN hi hx he hs hf) fun D σ H ⟨s, S, k, hs, hS, x0, h, e⟩ => ?_
  exact ⟨s, S, _, hs, hS, x0, h, fun d S1 h1 v H1 x1 rv hS1 => e.nx _ _ h1 _ _ x1 ((hs.kp x1.kp).set rv) hS1⟩
theorem ip_binD {o : Operator} (ho : o = .Add ∨ o = .Sub) : PIp X o (fun x y H Q => ∃ i j S z, x = .int i ∧ y = .int j ∧ binD o S (.int i) (.int j) = some z ∧ ∀ v, RV X.w X.K H v z → Q v H) := by
  intro pins s σ H x y v u Q I r1 r2 ⟨i, j, S, z, e1, e2, ez, q⟩
  rcases ho with rfl | rfl
  · cases ez; exact ip_add pins s σ H x y v u Q I r1 r2 ⟨i, j, e1, e2, q _ (.int _)⟩
  · cases ez; exact ip_sub pins s σ H x y v u Q I r1 r2 ⟨i, j, e1, e2, q _ (.int _)⟩
theorem ds_aug {a : Expr} {i : Nat} {x : Str} {p : Pos} {o : Operator} (ho : o = .Add ∨ o = .Sub) (hN : X.N.Nodup) (hi : X.N[i]? = some x) (hx : Loc X.env.scope x) (hf : X.fn x = true ∨ X.env.scope.names.lookup x = some .local) (he : PE X a (liftE X.w X.K B ta)) :
    PS X (.AugAssign (.Name x p) o a pos) (liftSt X.w X.K B fun k s S => optW (getS s i) fun x => ta s S fun y S1 => (match x, y with
      | .int a, .int b => optW (binD o S1 x y) fun z => k.nx (setS s i z) S1
      | _, _ => False)) := by
  refine ps_imp (ps_aug hN hi hx he (ip_binD ho) hf) fun D σ H ⟨s, S, k, hs, hS, x0, h, e⟩ => ?_
  obtain ⟨d, ed, h⟩ := optW_of h
  obtain ⟨v, ev, rv⟩ := hs.2 _ _ ed
  refine ⟨v, ev, s, S, _, hs, hS, x0, h, fun y S1 h1 u H1 x1 ru hS1 => ?_⟩
  split at h1
  · cases rv_int rv; cases rv_int ru
    obtain ⟨z, ez, h1⟩ := optW_of h1
    exact ⟨_, _, S1, z, rfl, rfl, ez, fun v' rv' => e.nx _ _ h1 _ _ x1 ((hs.kp x1.kp).set rv') hS1⟩
  · exact h1.elim
theorem ds_if {c : Expr} {a b : List Stmt} (hc : PT X c (liftT X.w X.K B ta)) (ha : PSs X a (liftSt X.w X.K B t1)) (hb : PSs X b (liftSt X.w X.K B t2)) : PS X (.If c a b pos) (liftSt X.w X.K B fun k s S => ta s S fun x S1 => (match x with
      | .bl c => if c = true then t1 k s S1 else t2 k s S1
      | _ => False)) := by
  refine ps_imp (ps_if hc ha hb) fun D σ H ⟨s, S, k, hs, hS, x0, h, e⟩ => ?_
  refine ⟨s, S, _, hs, hS, x0, h, fun x S1 h1 => ?_⟩
  obtain ⟨c, rfl, g1⟩ := bl_of (S := S1) h1
  refine ⟨c, rfl, fun H1 k1 hS1 => ?_⟩
  cases c with
  | true =>
    rw [if_pos rfl] at g1 ⊢
    exact ⟨s, S1, k, hs.kp k1.kp, hS1, x0.trans k1, g1, e.ext k1⟩
  | false =>
    rw [if_neg Bool.false_ne_true] at g1 ⊢
    exact ⟨s, S1, k, hs.kp k1.kp, hS1, x0.trans k1, g1, e.ext k1⟩
theorem ds_ret {a : Expr} (he : PE X a (liftE X.w X.K B ta)) : PS X (.Return (some a) pos) (liftSt X.w X.K B fun k s S => ta s S k.rt) :=
  ps_imp (ps_ret he) fun D σ H ⟨s, S, k, hs, hS, x0, h, e⟩ => ⟨s, S, _, hs, hS, x0, h, e.rt⟩
theorem ds_retn : PS X (.Return none pos) (liftSt X.w X.K B fun k _ S => k.rt .non S) :=
  ps_imp ps_retN fun D σ H ⟨s, S, k, hs, hS, x0, h, e⟩ => e.rt _ _ h _ _ Ext.refl .non hS
theorem ds_brk : PS X (.Break pos) (liftSt X.w X.K B fun k s S => k.bk s S) := ps_imp ps_break fun D σ H ⟨s, S, k, hs, hS, x0, h, e⟩ => e.bk _ _ h _ _ Ext.refl hs hS
theorem ds_cont : PS X (.Continue pos) (liftSt X.w X.K B fun k s S => k.ct s S) := ps_imp ps_continue fun D σ H ⟨s, S, k, hs, hS, x0, h, e⟩ => e.ct _ _ h _ _ Ext.refl hs hS
theorem ds_pass : PS X (.Pass pos) (liftSt X.w X.K B fun k s S => k.nx s S) := ps_imp ps_pass fun D σ H ⟨s, S, k, hs, hS, x0, h, e⟩ => e.nx _ _ h _ _ Ext.refl hs hS
theorem ds_never {st : Stmt} : PS X st (liftSt X.w X.K B fun _ _ _ => False) := ps_imp ps_never fun D σ H ⟨s, S, k, hs, hS, x0, h, e⟩ => h
theorem ds_exp {a : Expr} (he : PE X a (liftE X.w X.K B ta)) (hs : swapsWith a none pos.line X.env = pure false) : PS X (.Expr a pos) (liftSt X.w X.K B fun k s S => ta s S fun _ S1 => k.nx s S1) :=
  ps_imp (ps_expr he hs) fun D σ H ⟨s, S, k, hs, hS, x0, h, e⟩ => ⟨s, S, _, hs, hS, x0, h, fun d S1 h1 v H1 x1 _ hS1 => e.nx _ _ h1 _ _ x1 (hs.kp x1.kp) hS1⟩
theorem ds_whl {c : Expr} {body : List Stmt} (hp : PassesOwn (model X.prog X.w) X.A X.env X.xe) (hc : PT X c (liftT X.w X.K B ta)) (hb : PSs X body (liftSt X.w X.K B t1)) :
    PS X (.While c body [] pos) (liftSt X.w X.K B fun k s S => ∃ W : Nat → SD → Sto → Prop, (∃ m, W m s S) ∧ ∀ m s S, W m s S → ta s S fun x S1 => (match x with
      | .bl c => if c = true then t1 ⟨fun s' S' => ∃ m', m' < m ∧ W m' s' S', k.rt, k.nx, fun s' S' => ∃ m', m' < m ∧ W m' s' S'⟩ s S1 else k.nx s S1
      | _ => False)) := by
  refine ps_imp (ps_while hp hc hb) fun D σ H ⟨s, S, k, hs, hS, x0, ⟨W, ⟨m0, w0⟩, turn⟩, e⟩ => ?_
  refine ⟨fun m σ' H' => ∃ s' S', RS X.w X.K H' σ' s' ∧ HRel X.w X.K S' H' ∧ Ext S H S' H' ∧ W m s' S', ⟨m0, s, S, hs, hS, Ext.refl, w0⟩, fun m σ1 H1 ⟨s1, S1, hs1, hS1, x1, w1⟩ => ?_⟩
  refine ⟨s1, S1, _, hs1, hS1, x0.trans x1, turn m s1 S1 w1, fun x S2 h2 => ?_⟩
  obtain ⟨c, rfl, g1⟩ := bl_of (S := S2) h2
  refine ⟨c, rfl, fun H2 k2 hS2 => ?_⟩
  cases c with
  | false =>
    rw [if_neg Bool.false_ne_true] at g1 ⊢
    exact e.nx _ _ g1 _ _ (x1.trans k2) (hs1.kp k2.kp) hS2
  | true =>
    rw [if_pos rfl] at g1 ⊢
    have nxt : ∀ s' S', (∃ m', m' < m ∧ W m' s' S') → ∀ σ' H', Ext S2 H2 S' H' → RS X.w X.K H' σ' s' → HRel X.w X.K S' H' → ∃ m', m' < m ∧ ∃ s'' S'', RS X.w X.K H' σ' s'' ∧ HRel X.w X.K S'' H' ∧ Ext S H S'' H' ∧ W m' s'' S'' :=
      fun s' S' ⟨m', hm, w'⟩ σ' H' x' hs' hS' => ⟨m', hm, s', S', hs', hS', (x1.trans k2).trans x', w'⟩
    refine ⟨fun σ' H' => ∃ m', m' < m ∧ ∃ s'' S'', RS X.w X.K H' σ' s'' ∧ HRel X.w X.K S'' H' ∧ Ext S H S'' H' ∧ W m' s'' S'', fun σ' H' z => z, s1, S2, _, hs1.kp k2.kp, hS2, x0.trans (x1.trans k2), g1, nxt, fun d S' h v H' x' => e.rt d S' h v H' ((x1.trans k2).trans x'), fun s' S' h σ' H' x' => e.nx s' S' h σ' H' ((x1.trans k2).trans x'), nxt⟩
theorem drop_at {α : Type} : ∀ {l : List α} {i : Nat}, i < l.length → ∃ x, l[i]? = some x ∧ l.drop i = x :: l.drop (i + 1)
  | x :: l, 0, _ => ⟨x, rfl, rfl⟩
  | x :: l, i + 1, h => by
    obtain ⟨y, h1, h2⟩ := drop_at (l := l) (i := i) (by simpa using h)
    exact ⟨y, by simpa using h1, by simpa using h2⟩
theorem forW_g {g : Gd} {step : D → (SD → Sto → Prop) → SD → Sto → Prop} {k : SD → Sto → Prop} : ∀ {ds : List D} {s : SD} {S : Sto}, forW g step ds k s S → g S
  | [], _, _, h => h.1
  | _ :: _, _, _, h => h.1
theorem ds_for {tg iter : Expr} {body : List Stmt} {wi : DTI} {t : Tg} (hp : PassesOwn (model X.prog X.w) X.A X.env X.xe) (hc : X.calm = true) (hi : PI X tg iter (liftI X.w X.K B wi)) (hg : PG X tg (liftG X.w X.K t)) (hb : PSs X body (liftSt X.w X.K B t1)) (hs : ∀ x, foldedSetIterable iter X.env x = pure x) :
    PS X (.For tg iter body [] pos) (liftSt X.w X.K B fun k s S => wi s S fun ds g S1 => forW g (fun d nxt s1 S2 => wTg t d s1 fun s2 => t1 ⟨nxt, k.rt, k.nx, nxt⟩ s2 S2) ds k.nx s S1) := by
  refine ps_imp (ps_for hp hc hi hg hb hs) fun D σ H ⟨s, S, k, hs, hS, x0, h, e⟩ => ?_
  refine ⟨s, S, _, hs, hS, x0, h, fun ds g S1 h1 J H1 x1 hS1 wk => ?_⟩
  refine ⟨fun i m σ' H' => ∃ s' S', m = ds.length - i ∧ i ≤ ds.length ∧ RS X.w X.K H' σ' s' ∧ HRel X.w X.K S' H' ∧ Ext S H S' H' ∧ Kp H1 H' ∧ forW g (fun d nxt s1 S2 => wTg t d s1 fun s2 => t1 ⟨nxt, k.rt, k.nx, nxt⟩ s2 S2) (ds.drop i) k.nx s' S',
    ⟨_, s, S1, rfl, Nat.zero_le _, hs.kp x1.kp, hS1, x1, Kp.refl, h1⟩, fun i m σ2 H2 ⟨s2, S2, em, hi2, hs2, hS2, x2, k2, h2⟩ => ?_⟩
  have hg2 := forW_g h2
  by_cases hlt : i < ds.length
  · obtain ⟨d, ed, ed2⟩ := drop_at hlt
    rw [ed2] at h2
    obtain ⟨_, h2⟩ := h2
    refine .inr ⟨wk.go i H2 S2 k2 hS2 hg2 hlt, fun σ' H' => ∃ s' S', RS X.w X.K H' σ' s' ∧ HRel X.w X.K S' H' ∧ Ext S H S' H' ∧ Kp H1 H' ∧ forW g (fun d nxt s1 S2 => wTg t d s1 fun s2 => t1 ⟨nxt, k.rt, k.nx, nxt⟩ s2 S2) (ds.drop (i + 1)) k.nx s' S',
      fun σ' H' ⟨s', S', a1, a2, a3, a4, a5⟩ => ⟨ds.length - (i + 1), by omega, s', S', rfl, hlt, a1, a2, a3, a4, a5⟩, fun x H' y => ?_⟩
    obtain ⟨x3, hS3, rx⟩ := wk.yld i H2 S2 x H' k2 hS2 hg2 y d ed
    refine ⟨s2, d, _, hs2.kp x3.kp, rx, h2, fun s3 h3 σ3 hs3 _ => ?_⟩
    have nxt : ∀ s' S', forW g (fun d nxt s1 S2 => wTg t d s1 fun s2 => t1 ⟨nxt, k.rt, k.nx, nxt⟩ s2 S2) (ds.drop (i + 1)) k.nx s' S' → ∀ σ' H'', Ext S2 H' S' H'' → RS X.w X.K H'' σ' s' → HRel X.w X.K S' H'' →
        ∃ s' S', RS X.w X.K H'' σ' s' ∧ HRel X.w X.K S' H'' ∧ Ext S H S' H'' ∧ Kp H1 H'' ∧ forW g (fun d nxt s1 S2 => wTg t d s1 fun s2 => t1 ⟨nxt, k.rt, k.nx, nxt⟩ s2 S2) (ds.drop (i + 1)) k.nx s' S' :=
      fun s' S' h' σ' H'' x' hs' hS' => ⟨s', S', hs', hS', (x2.trans x3).trans x', (k2.trans x3.kp).trans x'.kp, h'⟩
    exact ⟨s3, S2, _, hs3, hS3, x0.trans (x2.trans x3), h3, nxt, fun d' S' h' v H'' x' => e.rt d' S' h' v H'' ((x2.trans x3).trans x'), fun s' S' h' σ' H'' x' => e.nx s' S' h' σ' H'' ((x2.trans x3).trans x'), nxt⟩
  · have ei : i = ds.length := by omega
    subst ei
    rw [List.drop_length] at h2
    exact .inl ⟨wk.stop H2 S2 k2 hS2 hg2, e.nx _ _ h2.2 _ _ x2 hs2 hS2⟩
end
end DL
namespace DL
open PySem PySem.Spec PyProof.Rows L2

/-! ### comprehensions -/
abbrev DTF := SD → Sto → (Sto → Prop) → (Sto → Prop) → Prop
def liftF (w : World) (K : PySem.W.Frag) (B : Bs) (t : DTF) : TT := fun σ H Q => ∃ s S y n, RS w K H σ s ∧ HRel w K S H ∧ Ext B.1 B.2 S H ∧ t s S y n ∧ (∀ S', y S' → ∀ H', Ext S H S' H' → HRel w K S' H' → Q true H') ∧ (∀ S', n S' → ∀ H', Ext S H S' H' → HRel w K S' H' → Q false H')
section
variable {X : Cx} {B : Bs}
theorem df_nil : PTs X [] (liftF X.w X.K B fun _ S y _ => y S) := ⟨fun pins s σ H Q I ⟨sd, S, y, n, hs, hS, x0, h, hy, hn⟩ => pts_nil.run pins s σ H Q I (hy S h H Ext.refl hS)⟩
theorem df_one {c : Expr} {tc : DTE} (hc : PT X c (liftT X.w X.K B tc)) : PTs X [c] (liftF X.w X.K B fun s S y n => tc s S fun x S1 => (match x with
      | .bl b => if b = true then y S1 else n S1
      | _ => False)) := by
  have h := pts_one hc
  refine ⟨fun pins s σ H Q I ⟨sd, S, y, n, hs, hS, x0, ht, hy, hn⟩ => h.run pins s σ H Q I ⟨sd, S, _, hs, hS, x0, ht, fun x S1 h1 => ?_⟩⟩
  obtain ⟨b, rfl, g1⟩ := bl_of (S := S1) h1
  refine ⟨b, rfl, fun H' k' hS' => ?_⟩
  cases b with
  | true => rw [if_pos rfl] at g1; exact hy _ g1 _ k' hS'
  | false => rw [if_neg Bool.false_ne_true] at g1; exact hn _ g1 _ k' hS'
theorem lcW_g {g : Gd} {step : D → Sto → (Option D → Sto → Prop) → Prop} {k : List D → Sto → Prop} : ∀ {ds acc : List D} {S : Sto}, lcW g step ds acc S k → g S
  | [], _, _, h => h.1
  | _ :: _, _, _, h => h.1
theorem lc_data {g : TG} {tt : TT} {te : TE} {wi : DTI} {t : Tg} {tc : DTF} {tE : DTE} {own : List Nat} {σ : L2.St} {H : Hp} {Q : VK} (ho : ∀ i ∈ slT t, i ∈ own)
    (h : liftE X.w X.K B (fun s S Q => wi s S fun ds g S1 => lcW g (fun d S2 R => wTg t d (wipeS s own) fun s1 => tc s1 S2 (fun S3 => tE s1 S3 fun y S4 => R (some y) S4) (fun S3 => R none S3)) ds [] S1 fun acc S2 => Q (.lst acc) S2) σ H Q) :
    tLc (liftI X.w X.K B wi) (liftG X.w X.K t) (liftF X.w X.K B tc) (liftE X.w X.K B tE) own σ H (lk Q) := by
  obtain ⟨s, S, R, hs, hS, x0, ht, post⟩ := h
  refine ⟨s, S, _, hs, hS, x0, ht, fun ds g S1 h1 J H1 x1 hS1 wk D hD => ?_⟩
  refine ⟨fun i m H' => ∃ S' acc vs, m = ds.length - i ∧ i ≤ ds.length ∧ acc.length ≤ i ∧ HRel X.w X.K S' H' ∧ Ext S1 H1 S' H' ∧ H' D = some (.lst vs) ∧ S' D = none ∧ RVs X.w X.K H' vs acc ∧
    lcW g (fun d S2 R => wTg t d (wipeS s own) fun s1 => tc s1 S2 (fun S3 => tE s1 S3 fun y S4 => R (some y) S4) (fun S3 => R none S3)) (ds.drop i) acc S' fun acc S2 => R (.lst acc) S2,
    ⟨_, S1, [], [], rfl, Nat.zero_le _, Nat.zero_le _, hS1.new hD, Ext.new hD, upd_same, hS1.free hD, .nil, h1⟩, fun i m H2 ⟨S2, acc, vs, em, hi, hl, hS2, x2, hD2, nD2, r2, h2⟩ => ?_⟩
  have hg2 := lcW_g h2
  by_cases hlt : i < ds.length
  · obtain ⟨d, ed, ed2⟩ := drop_at hlt
    rw [ed2] at h2
    obtain ⟨_, h2⟩ := h2
    refine .inr ⟨wk.go i H2 S2 x2.kp hS2 hg2 hlt, fun H' => ∃ S' acc vs, acc.length ≤ i + 1 ∧ HRel X.w X.K S' H' ∧ Ext S1 H1 S' H' ∧ H' D = some (.lst vs) ∧ S' D = none ∧ RVs X.w X.K H' vs acc ∧
      lcW g (fun d S2 R => wTg t d (wipeS s own) fun s1 => tc s1 S2 (fun S3 => tE s1 S3 fun y S4 => R (some y) S4) (fun S3 => R none S3)) (ds.drop (i + 1)) acc S' fun acc S2 => R (.lst acc) S2,
      fun H' ⟨S', acc', vs', a1, a2, a3, a4, a5, a6, a7⟩ => ⟨ds.length - (i + 1), by omega, S', acc', vs', rfl, hlt, a1, a2, a3, a4, a5, a6, a7⟩, fun x H3 y => ?_⟩
    obtain ⟨x3, hS3, rx⟩ := wk.yld i H2 S2 x H3 x2.kp hS2 hg2 y d ed
    have kk := (x1.kp.trans x2.kp).trans x3.kp
    obtain ⟨hD3, nD3⟩ := x3.fr D _ hD2 nD2
    refine ⟨wipeS s own, d, _, (hs.wipe own).kp kk, rx, h2, fun s4 h4 σ4 hs4 w4 => ⟨?_, ?_⟩⟩
    · rw [w4 own ho]
      refine List.ext_getElem? fun j => ?_
      by_cases hj : j ∈ own
      · have key : ∀ (σ : L2.St) (vs : List Nat), j ∈ vs → (wipe σ vs)[j]? = if j < σ.length then some none else none := by
          intro σ vs
          induction vs with
          | nil => intro h; cases h
          | cons v vs ih =>
            intro h
            rw [wipe, List.getElem?_set]
            by_cases e : v = j
            · subst e
              rw [if_pos rfl, wipe_length]
            · rw [if_neg e]
              exact ih ((List.mem_cons.mp h).elim (fun z => absurd z.symm e) id)
        rw [key _ _ hj, key _ _ hj, wipe_length]
      · rw [wipe_keep hj]
    · have xB := ((x0.trans x1).trans x2).trans x3
      refine ⟨s4, S2, _, _, hs4, hS3, xB, h4, fun S5 h5 H5 x5 hS5 => ?_, fun S5 h5 H5 x5 hS5 => ?_⟩
      · dsimp only
        rw [if_pos rfl]
        refine ⟨s4, S5, _, hs4.kp x5.kp, hS5, xB.trans x5, h5, fun y6 S6 h6 v6 H6 x6 rv6 hS6 => ?_⟩
        obtain ⟨hD5, nD5⟩ := x5.fr D _ hD3 nD3
        obtain ⟨hD6, nD6⟩ := x6.fr D _ hD5 nD5
        have k6 : Kp H6 (upd H6 D (.lst (vs ++ [v6]))) := Kp.chg hD6 trivial
        have hlen : vs.length = acc.length := r2.length
        have hdl := wk.len
        refine ⟨vs, hD6, by omega, S6, acc ++ [y6], vs ++ [v6], by rw [List.length_append]; simp; omega, ?_, ?_, upd_same, nD6, ?_, h6⟩
        · intro a o e
          exact (hS6 a o e).kp k6 (upd_ne fun z => by rw [z, nD6] at e; cases e)
        · have xx := ((x2.trans x3).trans x5).trans x6
          exact ⟨xx.kp.trans k6, fun a o e n => by
            obtain ⟨e1, n1⟩ := xx.fr a o e n
            refine ⟨?_, n1⟩
            rw [upd_ne (ne_of_none e hD)]
            exact e1⟩
        · exact (((r2.kp x3.kp).kp x5.kp).kp x6.kp).kp k6 |>.app (.cons (rv6.kp k6) .nil)
      · dsimp only
        rw [if_neg Bool.false_ne_true]
        obtain ⟨hD5, nD5⟩ := x5.fr D _ hD3 nD3
        refine ⟨S5, acc, vs, by omega, hS5, (x2.trans x3).trans x5, hD5, nD5, (r2.kp x3.kp).kp x5.kp, ?_⟩
        have h5 := h5
        simp only [Option.toList, List.append_nil] at h5
        exact h5
  · have ei : i = ds.length := by omega
    subst ei
    rw [List.drop_length] at h2
    refine .inl ⟨wk.stop H2 S2 x2.kp hS2 hg2, .inr ⟨D, _, rfl, hD2, trivial, fun od => ?_⟩⟩
    have hz := wk.len
    have zz : vs.length ≤ sizeLine := by rw [r2.length]; omega
    have kf : Kp H2 (upd H2 D (.frz od (.lst vs))) := Kp.chg hD2 trivial
    refine post _ _ h2.2 _ _ ⟨(x1.kp.trans x2.kp).trans kf, fun a o e n => ?_⟩ (.lst zz (.frz upd_same) (r2.kp kf)) ?_
    · obtain ⟨e1, n1⟩ := (x1.trans x2).fr a o e n
      have ne : a ≠ D := by
        intro z
        obtain ⟨e2, _⟩ := x1.fr a o e n
        rw [z, hD] at e2
        cases e2
      exact ⟨by rw [upd_ne ne]; exact e1, n1⟩
    · intro a o e
      exact (hS2 a o e).kp kf (upd_ne fun z => by rw [z, nD2] at e; cases e)
theorem de_lc {elt tg iter : Expr} {ifs : List Expr} {scope : Scope} {own : List (Str × Nat)} {pos : Pos} {wi : DTI} {t : Tg} {tc : DTF} {tE : DTE} (hc : X.calm = true) (hN : X.N.Nodup) (hi : PI X tg iter (liftI X.w X.K B wi)) (ok : BlkOk X.N X.env.scope scope own) (ho : ∀ i ∈ slT t, i ∈ own.map (·.2))
    (hg : ∀ (s : Shared) (H : Hp) (C : Addr) (cl : List (Str × Addr)) (fp : List Addr), PG (X.blk s H scope (compEnvC scope cl C X.env) fp) tg (liftG X.w X.K t)) (ht : ∀ (s : Shared) (H : Hp) (C : Addr) (cl : List (Str × Addr)) (fp : List Addr), PTs (X.blk s H scope (compEnvC scope cl C X.env) fp) ifs (liftF X.w X.K B tc))
    (he : ∀ (s : Shared) (H : Hp) (C : Addr) (cl : List (Str × Addr)) (fp : List Addr), PE (X.blk s H scope (compEnvC scope cl C X.env) fp) elt (liftE X.w X.K B tE)) (hs : ∀ x, foldedSetIterable iter X.env x = pure x) :
    PE X (.ListComp elt [⟨tg, iter, ifs, 0⟩] scope pos) (liftE X.w X.K B fun s S Q => wi s S fun ds g S1 => lcW g (fun d S2 R => wTg t d (wipeS s (own.map (·.2))) fun s1 => tc s1 S2 (fun S3 => tE s1 S3 fun y S4 => R (some y) S4) (fun S3 => R none S3)) ds [] S1 fun acc S2 => Q (.lst acc) S2) :=
  pe_imp (pe_lk (pe_lc hc hN hi ok hg ht he hs)) fun σ H Q h => lc_data (g := liftG X.w X.K t) (tt := liftF X.w X.K B tc) (te := liftE X.w X.K B tE) ho h
theorem tLc_mono {g : TG} {tt : TT} {te : TE} {wi : DTI} {own : List Nat} {σ : L2.St} {H : Hp} {Q Q' : VK} (h : tLc (liftI X.w X.K B wi) g tt te own σ H Q) (f : ∀ v H, Q v H → Q' v H) : tLc (liftI X.w X.K B wi) g tt te own σ H Q' := by
  obtain ⟨s, S, R, hs, hS, x0, ht, post⟩ := h
  refine ⟨s, S, R, hs, hS, x0, ht, fun ds g S1 h1 J H1 x1 hS1 wk D hD => ?_⟩
  obtain ⟨W, w0, turn⟩ := post ds g S1 h1 J H1 x1 hS1 wk D hD
  refine ⟨W, w0, fun i m H w => ?_⟩
  rcases turn i m H w with ⟨a, b⟩ | z
  · exact .inl ⟨a, f _ _ b⟩
  · exact .inr z
theorem ds_setLc {i : Nat} {y : Str} {py : Pos} {elt tg iter : Expr} {ifs : List Expr} {scope : Scope} {own : List (Str × Nat)} {pos spos : Pos} {wi : DTI} {t : Tg} {tc : DTF} {tE : DTE} (hc : X.calm = true) (hN : X.N.Nodup) (hy : X.N[i]? = some y) (hyl : X.env.scope.names.lookup y = some .local)
    (hsw : swapsWith (.ListComp elt [⟨tg, iter, ifs, 0⟩] scope pos) (some (.Name y py)) spos.line X.env = pure true) (hi : PI X tg iter (liftI X.w X.K B wi)) (ok : BlkOk X.N X.env.scope scope own) (ho : ∀ i ∈ slT t, i ∈ own.map (·.2))
    (hg : ∀ (s : Shared) (H : Hp) (C : Addr) (cl : List (Str × Addr)) (fp : List Addr), PG (X.blk s H scope (compEnvC scope cl C X.env) fp) tg (liftG X.w X.K t)) (ht : ∀ (s : Shared) (H : Hp) (C : Addr) (cl : List (Str × Addr)) (fp : List Addr), PTs (X.blk s H scope (compEnvC scope cl C X.env) fp) ifs (liftF X.w X.K B tc))
    (he : ∀ (s : Shared) (H : Hp) (C : Addr) (cl : List (Str × Addr)) (fp : List Addr), PE (X.blk s H scope (compEnvC scope cl C X.env) fp) elt (liftE X.w X.K B tE)) (hs : ∀ x, foldedSetIterable iter X.env x = pure x) :
    PS X (.Assign [.Name y py] (.ListComp elt [⟨tg, iter, ifs, 0⟩] scope pos) spos) (liftSt X.w X.K B fun k s S => wi s S fun ds g S1 => lcW g (fun d S2 R => wTg t d (wipeS s (own.map (·.2))) fun s1 => tc s1 S2 (fun S3 => tE s1 S3 fun y S4 => R (some y) S4) (fun S3 => R none S3)) ds [] S1 fun acc S2 => wTg (.nm i) (.lst acc) s fun s1 => k.nx s1 S2) := by
  -- the statement's end may freeze, too
  have base := ps_setLc (i := i) (py := py) (pos := pos) (spos := spos) hc hN hy hyl hsw hi ok hg ht he hs
  have lkS : PS X (.Assign [.Name y py] (.ListComp elt [⟨tg, iter, ifs, 0⟩] scope pos) spos) (fun D σ H => tLc (liftI X.w X.K B wi) (liftG X.w X.K t) (liftF X.w X.K B tc) (liftE X.w X.K B tE) (own.map (·.2)) σ H (lk fun v H' => D.nx (σ.set i (some v)) H')) := by
    refine ⟨fun pins s σ H D I q => ?_⟩
    refine thn (base.run pins s σ H { nx := fun σ' H' => ∃ v, σ' = σ.set i (some v) ∧ lk (fun v H' => D.nx (σ.set i (some v)) H') v H', rt := fun _ _ => False } I (tLc_mono q fun v H' z => ⟨v, rfl, z⟩)) fun f s' hf => ?_
    cases f with
    | next =>
      obtain ⟨σ', H', I', v, e, z⟩ := hf
      subst e
      rcases z with z | ⟨a, u, e, h1, h2, h3⟩
      · exact ⟨_, H', I', z⟩
      · subst e
        obtain ⟨od, I2⟩ := I'.lock h1 h2
        exact ⟨_, _, I2, h3 od⟩
    | ret u => obtain ⟨_, _, _, _, _, z⟩ := hf; exact z.elim
    | brk => obtain ⟨_, _, _, z⟩ := hf; exact z.elim
    | cont => obtain ⟨_, _, _, z⟩ := hf; exact z.elim
  exact lkS |> fun h => ps_imp h fun D σ H ⟨s, S, k, hs', hS, x0, ht', e⟩ => lc_data (g := liftG X.w X.K t) (tt := liftF X.w X.K B tc) (te := liftE X.w X.K B tE) ho ⟨s, S, _, hs', hS, x0, ht', fun d S' r v H' x' rv h' => e.nx _ _ r _ _ x' ((hs'.kp x'.kp).set rv) h'⟩
end
end DL
namespace DL
open PySem PySem.Spec PyProof.Rows L2

/-! ### calls -/
section
variable {T : Tab} {Γ : Nat → Fn} {Cs : Nat → D} {N : List Str} {k : Nat} {B : Bs} {F : XP} {sc : Scope} {X : Cx}
variable {x : Str} {i : Nat} {e a b : Expr} {es : List Expr} {n : Nat} {tr tk : DTA} {ta tb : DTE} {p pos : Pos}
theorem hall_pl (h : allPl (e :: es) = true) : isPl e = true ∧ allPl es = true := Bool.and_eq_true_iff.mp (show (isPl e && allPl es) = true from h)
theorem de_call (G : Good T Γ Cs N k B F sc X) (mem : (x, i) ∈ T.Fs) (hk : (Γ i).lv ≤ k) (hg : glB sc x = true) (hp : allPl (e :: es) = true) (hn : n = (Γ i).ar) (ha : PA X (e :: es) (liftA X.w X.K B n tr)) :
    PE X (.Call (.Name x p) (e :: es) [] pos) (liftE X.w X.K B fun s S Q => tr s S fun ds S1 => (Γ i).sp ds S1 Q F) := by
  obtain ⟨f, fd, ps, A, bnd⟩ := G.tab.fn x i mem
  obtain ⟨g1, g2, _⟩ := gl_of G.hsc hg
  obtain ⟨p1, p2⟩ := hall_pl hp
  refine pe_imp (pe_call (dvs := []) (E := liftX X.w X.K X.mg F B) A.ok (G.room.mono hk) g1 A.at_ A.kp bnd .nil (G.px _ fun _ _ _ z => z) ha g2 (star_pl p1) (stars_pl p2)) fun σ H Q ⟨s, S, R, hs, hS, x0, ht, post⟩ => ?_
  refine ⟨s, S, _, hs, hS, x0, ht, fun ds S1 h1 vs H1 k1 rs hS1 hl => ?_⟩
  show lsp X.w X.K X.mg (Γ i) (vs ++ []) H1 Q _
  rw [List.append_nil]
  exact sp_of (hl.trans hn) x0 k1 rs hS1 h1 post
theorem de_call0 (G : Good T Γ Cs N k B F sc X) (mem : (x, i) ∈ T.Fs) (hk : (Γ i).lv ≤ k) (hg : glB sc x = true) (hn : 0 = (Γ i).ar) :
    PE X (.Call (.Name x p) [] [] pos) (liftE X.w X.K B fun s S Q => (Γ i).sp [] S Q F) := by
  obtain ⟨f, fd, ps, A, bnd⟩ := G.tab.fn x i mem
  obtain ⟨g1, g2, _⟩ := gl_of G.hsc hg
  refine pe_imp (pe_call0 (dvs := []) (E := liftX X.w X.K X.mg F B) A.ok (G.room.mono hk) g1 A.at_ A.kp bnd .nil (G.px _ fun _ _ _ z => z) g2) fun σ H Q ⟨s, S, R, hs, hS, x0, ht, post⟩ => ?_
  exact sp_of hn x0 Ext.refl .nil hS ht post
theorem de_calld {cs : List Nat} (G : Good T Γ Cs N k B F sc X) (mem : (x, i, cs) ∈ T.Ds) (hk : (Γ i).lv ≤ k) (hg : glB sc x = true) (hp : allPl (e :: es) = true) (hn : n + cs.length = (Γ i).ar) (ha : PA X (e :: es) (liftA X.w X.K B n tr)) :
    PE X (.Call (.Name x p) (e :: es) [] pos) (liftE X.w X.K B fun s S Q => tr s S fun ds S1 => (Γ i).sp (ds ++ cs.map Cs) S1 Q F) := by
  obtain ⟨f, fd, ps, A, dvs, dd, rd, rdv, bnd⟩ := G.tab.fd x i cs mem
  obtain ⟨g1, g2, _⟩ := gl_of G.hsc hg
  obtain ⟨p1, p2⟩ := hall_pl hp
  refine pe_imp (pe_call (dvs := dvs) (E := liftX X.w X.K X.mg F B) A.ok (G.room.mono hk) g1 A.at_ A.kp bnd rd (G.px _ fun _ _ _ z => z) ha g2 (star_pl p1) (stars_pl p2)) fun σ H Q ⟨s, S, R, hs, hS, x0, ht, post⟩ => ?_
  refine ⟨s, S, _, hs, hS, x0, ht, fun ds S1 h1 vs H1 k1 rs hS1 hl => ?_⟩
  refine sp_of ?_ x0 k1 (rs.app (rdv H1)) hS1 h1 post
  rw [List.length_append, hl, (rdv H1).length, List.length_map]
  exact hn
theorem de_callk {kws : List Keyword} {ks : List Str} {m : Nat} (G : Good T Γ Cs N k B F sc X) (mem : (x, i, ks) ∈ T.Ks) (hk : (Γ i).lv ≤ k) (hg : glB sc x = true) (hp : allPl (e :: es) = true) (hn : n + m = (Γ i).ar) (ha : PA X (e :: es) (liftA X.w X.K B n tr)) (hkw : PK X kws (liftA X.w X.K B m tk))
    (h1 : kws.all (·.arg.isSome) = true) (h2 : kws.filterMap (·.arg) = ks) (hm0 : m = kws.length) :
    PE X (.Call (.Name x p) (e :: es) kws pos) (liftE X.w X.K B fun s S Q => tr s S fun ds S1 => tk s S1 fun us S2 => (Γ i).sp (ds ++ us) S2 Q F) := by
  obtain ⟨f, fd, ps, n0, A, har, bnd⟩ := G.tab.fk x i ks mem
  have kwl : ∀ kws : List Keyword, kws.all (·.arg.isSome) = true → (kws.filterMap (·.arg)).length = kws.length := by
    intro kws h
    induction kws with
    | nil => rfl
    | cons q r ih =>
      obtain ⟨nm, _, _⟩ := q
      rw [List.all_cons, Bool.and_eq_true] at h
      cases nm with
      | none => cases h.1
      | some _ =>
        show (_ :: List.filterMap (·.arg) r).length = _
        rw [List.length_cons, ih h.2, List.length_cons]
  have hks : ks.length = m := by rw [← h2, kwl kws h1, hm0]
  have hn0 : n0 = n := by omega
  subst hn0
  obtain ⟨g1, g2, _⟩ := gl_of G.hsc hg
  obtain ⟨p1, p2⟩ := hall_pl hp
  have kw1 : ∀ kws : List Keyword, (backToKw pos (keywordEach kws X.env)).all (·.1.isSome) = kws.all (·.arg.isSome) := by
    intro kws
    induction kws with
    | nil => rfl
    | cons q r ih => obtain ⟨_, _, _⟩ := q; exact congrArg _ ih
  have kw2 : ∀ kws : List Keyword, (backToKw pos (keywordEach kws X.env)).filterMap (·.1) = kws.filterMap (·.arg) := by
    intro kws
    induction kws with
    | nil => rfl
    | cons q r ih =>
      obtain ⟨nm, _, _⟩ := q
      show List.filterMap _ ((nm, _) :: backToKw pos (keywordEach r X.env)) = _
      rw [List.filterMap_cons, List.filterMap_cons, ih]
  have kw3 : ∀ kws : List Keyword, kws.all (·.arg.isSome) = true → (backToKw pos (keywordEach kws X.env)).any (·.1.isNone) = false := by
    intro kws h
    induction kws with
    | nil => rfl
    | cons q r ih =>
      obtain ⟨nm, _, _⟩ := q
      rw [List.all_cons, Bool.and_eq_true] at h
      show (nm.isNone || (backToKw pos (keywordEach r X.env)).any (·.1.isNone)) = false
      rw [ih h.2]
      cases nm with
      | none => cases h.1
      | some _ => rfl
  refine pe_imp (pe_callN (E := liftX X.w X.K X.mg F B) A.ok (G.room.mono hk) g1 A.at_ A.kp bnd (G.px _ fun _ _ _ z => z) ha hkw ((kw1 kws).trans h1) ((kw2 kws).trans h2) g2 (star_pl p1)
    (by rw [stars_pl hp, kw3 kws h1]; rfl)) fun σ H Q ⟨s, S, R, hs, hS, x0, ht, post⟩ => ?_
  refine ⟨s, S, _, hs, hS, x0, ht, fun ds S1 h1 vs H1 k1 rs hS1 hl => ⟨s, S1, _, hs.kp k1.kp, hS1, x0.trans k1, h1, fun us S2 h2 zs H2 k2 rz hS2 hm => ⟨hl, hm.trans hks.symm, ?_⟩⟩⟩
  refine sp_of ?_ x0 (k1.trans k2) ((rs.kp k2.kp).app rz) hS2 h2 post
  rw [List.length_append, hl, hm]
  exact hn
theorem de_calls {q : Pos} (G : Good T Γ Cs N k B F sc X) (mem : (x, i) ∈ T.Fs) (hk : (Γ i).lv ≤ k) (hg : glB sc x = true) (hp : isPl a = true) (ha : PE X a (liftE X.w X.K B ta)) (hb : PE X b (liftE X.w X.K B tb)) :
    PE X (.Call (.Name x p) [a, .Starred b q] [] pos) (liftE X.w X.K B fun s S Q => ta s S fun x S1 => tb s S1 fun y S2 => (match y with
      | .tup ds => ds.length + 1 = (Γ i).ar ∧ (Γ i).sp (x :: ds) S2 Q F
      | _ => False)) := by
  obtain ⟨f, fd, ps, A, bnd⟩ := G.tab.fn x i mem
  obtain ⟨g1, g2, _⟩ := gl_of G.hsc hg
  refine ⟨fun pins s0 σ H Q I ⟨s, S, R, hs, hS, x0, ht, post⟩ => ?_⟩
  refine wpAny_Call_Name_kw (ld_glob I g1 A.at_ ?_ g2)
  refine PySem.W.callWith_S2 (h₀ := X.base) I.ok.mod.kin A.kp ?_ (star_pl hp) rfl
  rw [star_pl hp]
  refine Calls.spliced_cons (thn (ha.run pins s0 σ H _ I ⟨s, S, _, hs, hS, x0, ht, fun x S1 h1 v H1 k1 rv hS1 => (⟨x, S1, h1, k1, rv, hS1⟩ : ∃ x S1, (tb s S1 fun y S2 => (match y with
      | .tup ds => ds.length + 1 = (Γ i).ar ∧ (Γ i).sp (x :: ds) S2 R F
      | _ => False)) ∧ Ext S H S1 H1 ∧ RV X.w X.K H1 v x ∧ HRel X.w X.K S1 H1)⟩) fun u1 s1 ⟨v1, H1, I1, r1, x, S1, h1, k1, rv, hS1⟩ => ?_)
  refine PySem.W.ks_spliced (thn (hb.run pins s1 σ H1 _ I1 ⟨s, S1, _, hs.kp k1.kp, hS1, x0.trans k1, h1, fun y S2 h2 v H2 k2 rv2 hS2 => (⟨y, S2, h2, k2, rv2, hS2⟩ : ∃ y S2, (match y with
      | .tup ds => ds.length + 1 = (Γ i).ar ∧ (Γ i).sp (x :: ds) S2 R F
      | _ => False) ∧ Ext S1 H1 S2 H2 ∧ RV X.w X.K H2 v y ∧ HRel X.w X.K S2 H2)⟩) fun u2 s2 ⟨v2, H2, I2, r2, y, S2, h2, k2, rv2, hS2⟩ => ?_)
  cases y <;> try exact h2.elim
  rename_i ds
  obtain ⟨t, vs, rfl, hq, rs, _⟩ := rv_tup rv2
  cases r2
  refine StX.star_any I2 (.inl hq) fun us s3 I3 rvs => Calls.spliced_nil ?_
  rw [List.append_nil]
  refine ⟨I3.kIn, ?_⟩
  have hl : (v1 :: vs).length = (Γ i).ar := by rw [List.length_cons, rs.length]; exact h2.1
  have hsp := sp_of (Q := Q) hl x0 (k1.trans k2) (.cons (rv.kp k2.kp) rs) hS2 h2.2 post
  exact run_fn (dvs := []) (us := u1 :: us) A.ok (G.room.mono hk) bnd .nil (G.px (liftX X.w X.K X.mg F B) fun _ _ _ z => z) I3 (.cons r1 rvs) (by rw [List.append_nil]; exact hsp)
/-! built-ins -/
def biX (b : Bi) : Str := Str.ofString (biN b)
theorem bi_boot (b : Bi) : bootBuiltins (biX b) = some (biV b) := by cases b <;> decide +kernel
theorem de_bi {bi : Bi} (hc : X.calm = true) (hm : X.mg (biX bi) = none) (hg : glB sc (biX bi) = true) (hsc : X.env.scope = sc) (hp : allPl (e :: es) = true) (ha : PA X (e :: es) (liftA X.w X.K B n tr)) :
    PE X (.Call (.Name (biX bi) p) (e :: es) [] pos) (liftE X.w X.K B fun s S Q => tr s S fun ds S1 => optW (biD bi S1 ds) fun z => Q z S1) := by
  obtain ⟨g1, g2, g3⟩ := gl_of hsc hg
  obtain ⟨p1, p2⟩ := hall_pl hp
  have key : PE X (.Call (.Name (biX bi) p) (e :: es) [] pos) (tCB (liftC X.w X.K (biD bi)) (liftA X.w X.K B n tr)) := by
    have hb := bi_boot bi
    have hr := call_biD (X := X) bi hc
    unfold biV at hb hr
    by_cases ht : biTy bi = true
    · rw [if_pos ht] at hb hr
      exact pe_callTy hr g1 hm hb ha g3 g2 (star_pl p1) (stars_pl p2)
    · rw [if_neg ht] at hb hr
      exact pe_callB hr g1 hm hb ha g3 g2 (star_pl p1) (stars_pl p2)
  refine pe_imp key fun σ H Q ⟨s, S, R, hs, hS, x0, ht, post⟩ => ?_
  refine ⟨s, S, _, hs, hS, x0, ht, fun ds S1 h1 vs H1 k1 rs hS1 hl => ?_⟩
  obtain ⟨z, ez, hz⟩ := optW_of h1
  exact ⟨ds, S1, z, rs, hS1, ez, fun v H' k' rv h' => post _ _ hz _ _ (k1.trans k') rv h'⟩
def tyNs : List String := ["int", "bool", "tuple", "list", "str", "dict"]
theorem ty_boot {t : String} (h : t ∈ tyNs) : bootBuiltins (Str.ofString t) = some (.type t) := by
  simp only [tyNs, List.mem_cons, List.not_mem_nil, or_false] at h
  rcases h with rfl | rfl | rfl | rfl | rfl | rfl <;> decide +kernel
theorem de_isi {t : String} {q : Pos} (hsc : X.env.scope = sc) (hm : X.mg "isinstance" = none) (hg : glB sc "isinstance" = true) (hm2 : X.mg (Str.ofString t) = none) (hg2 : glB sc (Str.ofString t) = true) (ht : t ∈ tyNs) (hp : isPl a = true) (ha : PE X a (liftE X.w X.K B ta)) :
    PE X (.Call (.Name "isinstance" p) [a, .Name (Str.ofString t) q] [] pos) (liftE X.w X.K B fun s S Q => ta s S fun x S1 => optW (isiD S1 x t) fun z => Q (.bl z) S1) := by
  obtain ⟨g1, g2, g3⟩ := gl_of hsc hg
  obtain ⟨g4, g5, g6⟩ := gl_of hsc hg2
  refine pe_imp (pe_callB call_isi g1 hm (by decide +kernel) (pa_cons ha (pa_cons (pe_bltn (v := .ty t) g4 hm2 (ty_boot ht) rfl g6 g5) pa_nil rfl) (star_pl hp)) g3 g2 (star_pl hp) rfl) fun σ H Q ⟨s, S, R, hs, hS, x0, h, post⟩ => ?_
  refine ⟨s, S, _, hs, hS, x0, h, fun x S1 h1 v H1 k1 rv hS1 => ?_⟩
  obtain ⟨z, ez, hz⟩ := optW_of h1
  obtain ⟨u, eu, ek⟩ := Option.bind_eq_some_iff.mp ez
  exact ⟨v, .ty t, .type u, .type t, z, rfl, .ty t, tyD_ok hS1 rv eu, kit_ty ek, post _ _ hz _ _ k1 (.bl z) hS1⟩
def noCall : Expr → Bool
  | .Call .. => false
  | _ => true
theorem noCall_ok {o : Expr} {nm : Str} {env : Env} {w : Sem Value} (h : noCall o = true) : attributeBase o nm env w = w := by
  cases o <;> first | rfl | cases h
theorem de_meth {m : Me} {apos cpos : Pos} (ho : noCall a = true) (hl : (apos.endLine == cpos.line) = true) (hp : isPl b = true) (ha : PE X a (liftE X.w X.K B ta)) (hb : PE X b (liftE X.w X.K B tb)) :
    PE X (.Call (.Attribute a (Str.ofString (meN m)) apos) [b] [] cpos) (liftE X.w X.K B fun s S Q => ta s S fun x S1 => optW (lstOf S1 x) fun _ => tb s S1 fun y S2 => meD m x y S2 Q) := by
  have hst : starEach [b] X.env = (false, eval b X.env) :: starEach [] X.env := star_pl hp
  have hfew : ((backTo cpos (starEach [b] X.env)).all (fun x => !x.1) && (backToKw cpos (keywordEach [] X.env)).all (fun x => x.1.isSome) && decide ([b].length + ([] : List Keyword).length + (if ([] : List Keyword).isEmpty then 0 else 1) < 30)) = true := by
    rw [hst]; rfl
  have key : PE X (.Call (.Attribute a (Str.ofString (meN m)) apos) [b] [] cpos) (tBM X.K "list" (liftM X.w X.K m) (liftE X.w X.K B ta) (tCons (liftE X.w X.K B tb) tNil)) := by
    cases m with
    | append => exact pe_bm PySem.F.plainAttrs_list PySem.F.slot_list_append PySem.F.type_list_append (mt_meD .append) ha (pa_cons hb pa_nil hst) (noCall_ok ho) hfew hl hst rfl
    | popAt => exact pe_bm PySem.F.plainAttrs_list PySem.F.slot_list_pop PySem.F.type_list_pop (mt_meD .popAt) ha (pa_cons hb pa_nil hst) (noCall_ok ho) hfew hl hst rfl
  refine pe_imp key fun σ H Q ⟨s, S, R, hs, hS, x0, h, post⟩ => ?_
  refine ⟨s, S, _, hs, hS, x0, h, fun x S1 h1 v H1 k1 rv hS1 => ?_⟩
  obtain ⟨ds, ed, h1⟩ := optW_of h1
  obtain ⟨p, vs, rfl, hq, _⟩ := rv_lstOf hS1 rv ed
  refine ⟨.inl ⟨rfl, vs, hq⟩, s, S1, _, hs.kp k1.kp, hS1, x0.trans k1, h1, fun y S2 h2 u H2 k2 ru hS2 => ?_⟩
  exact ⟨x, u, y, S2, R, rfl, rv.kp k2.kp, ru, hS2, h2, fun d' S' r v' H' k' rv' h' => post d' S' r v' H' ((k1.trans k2).trans k') rv' h'⟩
theorem de_gl {c : Nat} (G : Good T Γ Cs N k B F sc X) (mem : (x, c) ∈ T.Cs) (hg : glB sc x = true) : PE X (.Name x p) (liftE X.w X.K B fun _ S Q => Q (Cs c) S) := by
  obtain ⟨v, u, e1, r, rv⟩ := G.tab.cst x c mem
  obtain ⟨g1, g2, _⟩ := gl_of G.hsc hg
  exact pe_imp (pe_glob g1 e1 r g2) fun σ H Q ⟨s, S, R, hs, hS, x0, h, post⟩ => post _ _ h _ _ Ext.refl (rv H) hS
theorem de_va {j : Nat} (hN : X.N[j]? = some x) (hv : visB sc x = true) (hsc : X.env.scope = sc) : PE X (.Name x p) (liftE X.w X.K B fun s S Q => optW (getS s j) fun d => Q d S) := by
  obtain ⟨v1, v2, v3⟩ := vis_of hv
  refine pe_imp (pe_var hN (by rw [hsc]; exact v1) v2 v3) fun σ H Q ⟨s, S, R, hs, hS, x0, h, post⟩ => ?_
  obtain ⟨d, ed, h⟩ := optW_of h
  obtain ⟨v, ev, rv⟩ := hs.2 _ _ ed
  exact ⟨v, ev, post _ _ h _ _ Ext.refl rv hS⟩
end
end DL
namespace DL
open PySem PySem.Spec PyProof.Rows L2

/-! ### the check: a text against its small syntax -/
def locB (sc : Scope) (x : Str) : Bool := decide (sc.names.lookup x = some .local)
def cellB (sc : Scope) (x : Str) : Bool := decide (sc.names.lookup x = some .cell)
mutual
def cG (N : List Str) (top : Bool) (sc : Scope) : Tg → Expr → Bool
  | .nm i, e => (match e with
    | .Name x _ => decide (N[i]? = some x) && (locB sc x || (top && cellB sc x))
    | _ => false)
  | .tup ts, e => (match e with
    | .Tuple es _ _ => allPl es && cGs N top sc ts es
    | _ => false)
def cGs (N : List Str) (top : Bool) (sc : Scope) : Tgs → List Expr → Bool
  | .nil, es => (match es with | [] => true | _ => false)
  | .cons t ts, es => (match es with
    | e :: es => cG N top sc t e && cGs N top sc ts es
    | [] => false)
end
def isNmT : Tg → Bool
  | .nm _ => true
  | _ => false
def isTupE : Expr → Bool
  | .Tuple .. => true
  | _ => false
def ownP (N : List Str) (own : List Nat) : List (Str × Nat) := own.map fun i => (N.getD i Str.empty, i)
def subL (a b : List Nat) : Bool := a.all fun i => b.contains i
def eqC : CmpOp → CmpOp → Bool := fun a b => decide (a = b)
mutual
/-- may be asked as a test -/
def okT : Ex → Expr → Bool
  | .and a b, e => (match e with
    | .BoolOp .And (a' :: b' :: r) p => okT a a' && okT b (.BoolOp .And (b' :: r) p)
    | _ => false)
  | .or a b, e => (match e with
    | .BoolOp .Or (a' :: b' :: r) p => okT a a' && okT b (.BoolOp .Or (b' :: r) p)
    | _ => false)
  | .one a, e => (match e with
    | .BoolOp _ [a'] _ => okT a a'
    | _ => false)
  | .not a, e => (match e with
    | .UnaryOp .Not a' _ => okT a a'
    | _ => false)
  | .cmp _ _ _, _ => true
  | .chn _ _ _ _ _, _ => true
  | _, e => plT e
end
section
variable (T : Tab) (Γ : Nat → Fn) (N : List Str) (k : Nat)
mutual
def cE : Ex → Scope → Expr → Bool
  | .va i, sc, e => (match e with
    | .Name x _ => decide (N[i]? = some x) && visB sc x
    | _ => false)
  | .co c, _, e => (match e with
    | .Constant c' _ _ => decide (c' = c) && (conD c).isSome
    | _ => false)
  | .gl c, sc, e => (match e with
    | .Name x _ => decide ((x, c) ∈ T.Cs) && glB sc x
    | _ => false)
  | .tup es, sc, e => (match e with
    | .Tuple es' _ _ => decide (es'.length ≤ 64) && cA es sc es'
    | _ => false)
  | .lst es, sc, e => (match e with
    | .List es' _ => decide (es'.length ≤ 64) && cA es sc es'
    | _ => false)
  | .lstm es, sc, e => (match e with
    | .List es' _ => decide (es'.length ≤ 64) && cA es sc es'
    | _ => false)
  | .bin o a b, sc, e => (match e with
    | .BinOp a' o' b' _ => decide (o' = o) && (cE a sc a' && cE b sc b')
    | _ => false)
  | .neg a, sc, e => (match e with
    | .UnaryOp .USub a' _ => cE a sc a'
    | _ => false)
  | .cmp o a b, sc, e => (match e with
    | .Compare a' [o'] [b'] _ => eqC o' o && noMk b' && (cE a sc a' && cE b sc b')
    | _ => false)
  | .chn o p a b c, sc, e => (match e with
    | .Compare a' [o', p'] [b', c'] _ => eqC o' o && eqC p' p && noMk c' && (cE a sc a' && cE b sc b' && cE c sc c')
    | _ => false)
  | .and a b, sc, e => (match e with
    | .BoolOp .And (a' :: b' :: r) p => cE a sc a' && cE b sc (.BoolOp .And (b' :: r) p)
    | _ => false)
  | .or a b, sc, e => (match e with
    | .BoolOp .Or (a' :: b' :: r) p => cE a sc a' && cE b sc (.BoolOp .Or (b' :: r) p)
    | _ => false)
  | .one a, sc, e => (match e with
    | .BoolOp _ [a'] _ => cE a sc a'
    | _ => false)
  | .not a, sc, e => (match e with
    | .UnaryOp .Not a' _ => cE a sc a'
    | _ => false)
  | .ife c a b, sc, e => (match e with
    | .IfExp c' a' b' _ => okT c c' && (cE c sc c' && cE a sc a' && cE b sc b')
    | _ => false)
  | .ix a b, sc, e => (match e with
    | .Subscript a' b' _ => plIx b' && (cE a sc a' && cE b sc b')
    | _ => false)
  | .sl a lo hi, sc, e => (match e with
    | .Subscript a' (.Slice lo' hi' none _) _ => cE a sc a' && (cP lo sc lo' && cP hi sc hi')
    | _ => false)
  | .call f es, sc, e => (match e with
    | .Call (.Name x _) es' [] _ => decide ((x, f) ∈ T.Fs) && decide ((Γ f).lv ≤ k) && glB sc x && allPl es' && decide (es'.length = (Γ f).ar) && cA es sc es'
    | _ => false)
  | .calld f es cs, sc, e => (match e with
    | .Call (.Name x _) (e' :: es') [] _ => decide ((x, f, cs) ∈ T.Ds) && decide ((Γ f).lv ≤ k) && glB sc x && allPl (e' :: es') && decide ((e' :: es').length + cs.length = (Γ f).ar) && cA es sc (e' :: es')
    | _ => false)
  | .callk f es ks, sc, e => (match e with
    | .Call (.Name x _) (e' :: es') kws _ => decide ((x, f, kws.filterMap (·.arg)) ∈ T.Ks) && decide ((Γ f).lv ≤ k) && glB sc x && allPl (e' :: es') && decide ((e' :: es').length + kws.length = (Γ f).ar) && kws.all (·.arg.isSome) &&
      (cA es sc (e' :: es') && cK ks sc kws)
    | _ => false)
  | .calls f a b, sc, e => (match e with
    | .Call (.Name x _) [a', .Starred b' _] [] _ => decide ((x, f) ∈ T.Fs) && decide ((Γ f).lv ≤ k) && glB sc x && isPl a' && (cE a sc a' && cE b sc b')
    | _ => false)
  | .bi b es, sc, e => (match e with
    | .Call (.Name x _) (e' :: es') [] _ => decide (x = biX b) && decide (x ∈ T.B) && glB sc x && allPl (e' :: es') && cA es sc (e' :: es')
    | _ => false)
  | .isi a t, sc, e => (match e with
    | .Call (.Name x _) [a', .Name y _] [] _ => decide (x = "isinstance") && decide (x ∈ T.B) && glB sc x && decide (y = Str.ofString t) && decide (y ∈ T.B) && glB sc y && decide (t ∈ tyNs) && isPl a' && cE a sc a'
    | _ => false)
  | .meth m o a, sc, e => (match e with
    | .Call (.Attribute o' nm apos) [a'] [] cpos => decide (nm = Str.ofString (meN m)) && noCall o' && (apos.endLine == cpos.line) && isPl a' && (cE o sc o' && cE a sc a')
    | _ => false)
  | .lc own it tg c x, sc, e => (match e with
    | .ListComp x' [⟨tg', it', c', n⟩] scope _ => decide (n = 0) && blkC N sc scope (ownP N own) && subL (slT tg) own && noSet it' && cI it sc tg' it' && cG N false (relS scope sc) tg tg' && cC c (relS scope sc) c' && cE x (relS scope sc) x'
    | _ => false)
  | .frz a, sc, e => cE a sc e
def cP : Exo → Scope → Option Expr → Bool
  | .no, _, e => (match e with | none => true | _ => false)
  | .so x, sc, e => (match e with | some e => cE x sc e | _ => false)
def cA : Exs → Scope → List Expr → Bool
  | .nil, _, e => (match e with | [] => true | _ => false)
  | .cons x xs, sc, e => (match e with | e :: es => isPl e && cE x sc e && cA xs sc es | _ => false)
def cK : Exs → Scope → List Keyword → Bool
  | .nil, _, e => (match e with | [] => true | _ => false)
  | .cons x xs, sc, e => (match e with | ⟨_, e, _⟩ :: es => cE x sc e && cK xs sc es | _ => false)
def cC : Exs → Scope → List Expr → Bool
  | .nil, _, e => (match e with | [] => true | _ => false)
  | .cons x _, sc, e => (match e with | [e] => okT x e && cE x sc e | _ => false)
def cI : Ix → Scope → Expr → Expr → Bool
  | .seq x, sc, _, e => cE x sc e
  | .rng1 a, sc, _, e => (match e with
    | .Call (.Name x _) [a'] [] _ => decide (x = "range") && decide (x ∈ T.B) && glB sc x && isPl a' && cE a sc a'
    | _ => false)
  | .rng2 a b, sc, _, e => (match e with
    | .Call (.Name x _) [a', b'] [] _ => decide (x = "range") && decide (x ∈ T.B) && glB sc x && isPl a' && isPl b' && (cE a sc a' && cE b sc b')
    | _ => false)
  | .enum a, sc, tg, e => (match e with
    | .Call (.Name x _) [a'] [] _ => decide (x = "enumerate") && decide (x ∈ T.B) && glB sc x && isTupE tg && isPl a' && cE a sc a'
    | _ => false)
  | .zip a b, sc, tg, e => (match e with
    | .Call (.Name x _) [a', b'] [] _ => decide (x = "zip") && decide (x ∈ T.B) && glB sc x && isTupE tg && isPl a' && isPl b' && (cE a sc a' && cE b sc b')
    | _ => false)
end
end
theorem and2 {a b : Bool} (h : (a && b) = true) : a = true ∧ b = true := Bool.and_eq_true_iff.mp h

section
variable {T : Tab} {Γ : Nat → Fn} {Cs : Nat → D} {N : List Str} {k : Nat} {B : Bs} {F : XP} {sc : Scope} {X : Cx}
theorem sub_of {a b : List Nat} (h : subL a b = true) : ∀ i ∈ a, i ∈ b := fun i hi => by
  have q := List.all_eq_true.mp h i hi
  exact List.contains_iff_mem.mp q
theorem own_map {N : List Str} {own : List Nat} : (ownP N own).map (·.2) = own := by
  unfold ownP
  rw [List.map_map]
  exact List.map_id _
mutual
theorem sG {top : Bool} (hN : X.N = N) (nd : N.Nodup) (hsc : X.env.scope = sc) (calm : X.calm = true) (hf : top = true → ∀ x, X.fn x = true) : ∀ (t : Tg) (e : Expr), cG N top sc t e = true → PG X e (liftG X.w X.K t)
  | .nm i, e, h => by
    unfold cG at h
    split at h
    · rename_i x p
      obtain ⟨h1, h2⟩ := and2 h
      have h1 := of_decide_eq_true h1
      rcases (Bool.or_eq_true _ _).mp h2 with h2 | h2
      · have l : X.env.scope.names.lookup x = some .local := by rw [hsc]; exact of_decide_eq_true h2
        exact dg_nm (by rw [hN]; exact nd) (by rw [hN]; exact h1) (.inl l) (.inr l)
      · obtain ⟨h3, h4⟩ := and2 h2
        have l : X.env.scope.names.lookup x = some .cell := by rw [hsc]; exact of_decide_eq_true h4
        exact dg_nm (by rw [hN]; exact nd) (by rw [hN]; exact h1) (.inr l) (.inl (hf h3 x))
    · cases h
  | .tup ts, e, h => by
    unfold cG at h
    split at h
    · rename_i es kk p
      obtain ⟨h1, h2⟩ := and2 h
      obtain ⟨h3, h4⟩ := sGs hN nd hsc calm hf ts es h1 h2
      exact dg_tup calm h1 h3 h4
    · cases h
theorem sGs {top : Bool} (hN : X.N = N) (nd : N.Nodup) (hsc : X.env.scope = sc) (calm : X.calm = true) (hf : top = true → ∀ x, X.fn x = true) : ∀ (t : Tgs) (es : List Expr), allPl es = true → cGs N top sc t es = true → es.length = lenTs t ∧ PGs X es (liftGs X.w X.K t)
  | .nil, es, _, h => by
    unfold cGs at h
    cases es with
    | nil => exact ⟨rfl, dgs_nil⟩
    | cons => cases h
  | .cons t ts, es, hp, h => by
    unfold cGs at h
    cases es with
    | nil => cases h
    | cons e es =>
      obtain ⟨h1, h2⟩ := and2 h
      obtain ⟨p1, p2⟩ := hall_pl hp
      obtain ⟨h3, h4⟩ := sGs hN nd hsc calm hf ts es p2 h2
      exact ⟨congrArg Nat.succ h3, dgs_cons p1 (sG hN nd hsc calm hf t e h1) h4⟩
end
theorem room65 (G : Good T Γ Cs N k B F sc X) : X.A.units + 65 < cLine := by
  have h := G.room.un
  omega
abbrev Tri (Γ : Nat → Fn) (Cs : Nat → D) (B : Bs) (F : XP) (X : Cx) (x : Ex) (e : Expr) : Prop :=
  PE X e (liftE X.w X.K B (wE Γ Cs F x)) ∧ (okT x e = true → PT X e (liftT X.w X.K B (wE Γ Cs F x))) ∧ (∀ op vs p, e = .BoolOp op vs p → okT x e = true → PW X e (liftT X.w X.K B (wE Γ Cs F x)))
theorem tri {x : Ex} {e : Expr} (h : PE X e (liftE X.w X.K B (wE Γ Cs F x))) (hk : okT x e = plT e) : Tri Γ Cs B F X x e :=
  ⟨h, fun q => truth_bl h (plT_ok (by rw [← hk]; exact q)), fun op vs p ee q => by subst ee; rw [hk] at q; cases q⟩
theorem blk_scope {scope : Scope} {C : Addr} {cl : List (Str × Addr)} {env : Env} : (compEnvC scope cl C env).scope = relS scope env.scope := rfl
mutual
theorem sE : ∀ (x : Ex) {sc : Scope} {F : XP} {X : Cx} (G : Good T Γ Cs N k B F sc X) (e : Expr), cE T Γ N k x sc e = true → Tri Γ Cs B F X x e
  | .va i, sc, F, X, G, e, h => by
    unfold cE at h
    split at h
    · obtain ⟨h1, h2⟩ := and2 h
      exact tri (de_va (by rw [G.hN]; exact of_decide_eq_true h1) h2 G.hsc) rfl
    · cases h
  | .co c, sc, F, X, G, e, h => by
    unfold cE at h
    split at h
    · obtain ⟨h1, h2⟩ := and2 h
      have h1 := of_decide_eq_true h1
      subst h1
      obtain ⟨d, ed⟩ := Option.isSome_iff_exists.mp h2
      refine tri (pe_imp (de_co ed) fun σ H Q ⟨s, S, R, hs, hS, x0, ht, post⟩ => ⟨s, S, R, hs, hS, x0, ?_, post⟩) rfl
      have ht : optW (conD _) (fun d => R d S) := ht
      rw [ed] at ht
      exact ht
    · cases h
  | .gl c, sc, F, X, G, e, h => by
    unfold cE at h
    split at h
    · obtain ⟨h1, h2⟩ := and2 h
      exact tri (de_gl G (of_decide_eq_true h1) h2) rfl
    · cases h
  | .tup es, sc, F, X, G, e, h => by
    unfold cE at h
    split at h
    · obtain ⟨h1, h2⟩ := and2 h
      exact tri (de_tup (of_decide_eq_true h1) (sA es G _ h2).2) rfl
    · cases h
  | .lst es, sc, F, X, G, e, h => by
    unfold cE at h
    split at h
    · obtain ⟨h1, h2⟩ := and2 h
      exact tri (de_lst (of_decide_eq_true h1) (sA es G _ h2).2) rfl
    · cases h
  | .lstm es, sc, F, X, G, e, h => by
    unfold cE at h
    split at h
    · obtain ⟨h1, h2⟩ := and2 h
      exact tri (de_lstm (of_decide_eq_true h1) (sA es G _ h2).2) rfl
    · cases h
  | .bin o a b, sc, F, X, G, e, h => by
    unfold cE at h
    split at h
    · obtain ⟨h1, h2⟩ := and2 h
      obtain ⟨h2, h3⟩ := and2 h2
      have h1 := of_decide_eq_true h1
      subst h1
      exact tri (de_bin (sE a G _ h2).1 (sE b G _ h3).1) rfl
    · cases h
  | .neg a, sc, F, X, G, e, h => by
    unfold cE at h
    split at h
    · exact tri (de_neg (sE a G _ h).1) rfl
    · cases h
  | .cmp o a b, sc, F, X, G, e, h => by
    unfold cE at h
    split at h
    · obtain ⟨h1, h2⟩ := and2 h
      obtain ⟨h0, hm⟩ := and2 h1
      obtain ⟨h2, h3⟩ := and2 h2
      have h0 : _ = o := of_decide_eq_true h0
      subst h0
      have pa := (sE a G _ h2).1
      have pb := (sE b G _ h3).1
      exact ⟨de_cmp (room65 G) hm pa pb, fun _ => dt_cmp (room65 G) hm pa pb, fun _ _ _ z => nomatch z⟩
    · cases h
  | .chn o p a b c, sc, F, X, G, e, h => by
    unfold cE at h
    split at h
    · obtain ⟨h1, h2⟩ := and2 h
      obtain ⟨h0, hm⟩ := and2 h1
      obtain ⟨h0, h0'⟩ := and2 h0
      obtain ⟨h2, h4⟩ := and2 h2
      obtain ⟨h2, h3⟩ := and2 h2
      have h0 : _ = o := of_decide_eq_true h0
      have h0' : _ = p := of_decide_eq_true h0'
      subst h0 h0'
      have pa := (sE a G _ h2).1
      have pb := (sE b G _ h3).1
      have pc := (sE c G _ h4).1
      exact ⟨de_chn (room65 G) hm pa pb pc, fun _ => dt_chn (room65 G) hm pa pb pc, fun _ _ _ z => nomatch z⟩
    · cases h
  | .and a b, sc, F, X, G, e, h => by
    unfold cE at h
    split at h
    · rename_i a' b' r p
      obtain ⟨h1, h2⟩ := and2 h
      have pa := sE a G _ h1
      have pb := sE b G _ h2
      have w : okT (.and a b) (.BoolOp .And (a' :: b' :: r) p) = true → PW X (.BoolOp .And (a' :: b' :: r) p) (liftT X.w X.K B (wE Γ Cs F (.and a b))) := fun q => by
        unfold okT at q
        obtain ⟨q1, q2⟩ := and2 q
        exact dw_and (pa.2.1 q1) (pb.2.2 _ _ _ rfl q2)
      exact ⟨de_and pa.1 pb.1, fun q => (w q).pt, fun _ _ _ _ q => w q⟩
    · cases h
  | .or a b, sc, F, X, G, e, h => by
    unfold cE at h
    split at h
    · rename_i a' b' r p
      obtain ⟨h1, h2⟩ := and2 h
      have pa := sE a G _ h1
      have pb := sE b G _ h2
      have w : okT (.or a b) (.BoolOp .Or (a' :: b' :: r) p) = true → PW X (.BoolOp .Or (a' :: b' :: r) p) (liftT X.w X.K B (wE Γ Cs F (.or a b))) := fun q => by
        unfold okT at q
        obtain ⟨q1, q2⟩ := and2 q
        exact dw_or (pa.2.1 q1) (pb.2.2 _ _ _ rfl q2)
      exact ⟨de_or pa.1 pb.1, fun q => (w q).pt, fun _ _ _ _ q => w q⟩
    · cases h
  | .one a, sc, F, X, G, e, h => by
    unfold cE at h
    split at h
    · rename_i op a' p
      have pa := sE a G _ h
      have w : okT (.one a) (.BoolOp op [a'] p) = true → PW X (.BoolOp op [a'] p) (liftT X.w X.K B (wE Γ Cs F (.one a))) := fun q => by
        unfold okT at q
        cases op with
        | And => exact pw_and1 (pa.2.1 q)
        | Or => exact pw_or1 (pa.2.1 q)
      exact ⟨pe_one pa.1, fun q => (w q).pt, fun _ _ _ _ q => w q⟩
    · cases h
  | .not a, sc, F, X, G, e, h => by
    unfold cE at h
    split at h
    · have pa := sE a G _ h
      exact ⟨de_not pa.1, fun q => dt_not (pa.2.1 (by unfold okT at q; exact q)), fun _ _ _ z => nomatch z⟩
    · cases h
  | .ife c a b, sc, F, X, G, e, h => by
    unfold cE at h
    split at h
    · obtain ⟨h0, h1⟩ := and2 h
      obtain ⟨h1, h3⟩ := and2 h1
      obtain ⟨h1, h2⟩ := and2 h1
      exact tri (de_ife ((sE c G _ h1).2.1 h0) (sE a G _ h2).1 (sE b G _ h3).1) rfl
    · cases h
  | .ix a b, sc, F, X, G, e, h => by
    unfold cE at h
    split at h
    · obtain ⟨h0, h1⟩ := and2 h
      obtain ⟨h1, h2⟩ := and2 h1
      exact tri (de_ix h0 (sE a G _ h1).1 (sE b G _ h2).1) rfl
    · cases h
  | .sl a lo hi, sc, F, X, G, e, h => by
    unfold cE at h
    split at h
    · obtain ⟨h0, h1⟩ := and2 h
      obtain ⟨h1, h2⟩ := and2 h1
      exact tri (de_sl (sE a G _ h0).1 (sP lo G _ h1) (sP hi G _ h2)) rfl
    · cases h
  | .call f es, sc, F, X, G, e, h => by
    unfold cE at h
    split at h
    · rename_i x p es' p'
      obtain ⟨h, h5⟩ := and2 h
      obtain ⟨h, h4⟩ := and2 h
      obtain ⟨h, h3⟩ := and2 h
      obtain ⟨h, h2⟩ := and2 h
      obtain ⟨h0, h1⟩ := and2 h
      cases es' with
      | nil =>
        cases es with
        | nil => exact tri (de_call0 G (of_decide_eq_true h0) (of_decide_eq_true h1) h2 (of_decide_eq_true h4)) rfl
        | cons => unfold cA at h5; cases h5
      | cons e' es' =>
        have q := (sA es G _ h5).2
        exact tri (de_call G (of_decide_eq_true h0) (of_decide_eq_true h1) h2 h3 (of_decide_eq_true h4) q) rfl
    · cases h
  | .calld f es cs, sc, F, X, G, e, h => by
    unfold cE at h
    split at h
    · obtain ⟨h, h5⟩ := and2 h
      obtain ⟨h, h4⟩ := and2 h
      obtain ⟨h, h3⟩ := and2 h
      obtain ⟨h, h2⟩ := and2 h
      obtain ⟨h0, h1⟩ := and2 h
      exact tri (de_calld G (of_decide_eq_true h0) (of_decide_eq_true h1) h2 h3 (of_decide_eq_true h4) (sA es G _ h5).2) rfl
    · cases h
  | .callk f es ks, sc, F, X, G, e, h => by
    unfold cE at h
    split at h
    · obtain ⟨h, h6⟩ := and2 h
      obtain ⟨h6, h7⟩ := and2 h6
      obtain ⟨h, h5⟩ := and2 h
      obtain ⟨h, h4⟩ := and2 h
      obtain ⟨h, h3⟩ := and2 h
      obtain ⟨h, h2⟩ := and2 h
      obtain ⟨h0, h1⟩ := and2 h
      exact tri (de_callk G (of_decide_eq_true h0) (of_decide_eq_true h1) h2 h3 (of_decide_eq_true h4) (sA es G _ h6).2 (sK ks G _ h7).2 h5 rfl rfl) rfl
    · cases h
  | .calls f a b, sc, F, X, G, e, h => by
    unfold cE at h
    split at h
    · obtain ⟨h, h4⟩ := and2 h
      obtain ⟨h4, h5⟩ := and2 h4
      obtain ⟨h, h3⟩ := and2 h
      obtain ⟨h, h2⟩ := and2 h
      obtain ⟨h0, h1⟩ := and2 h
      exact tri (de_calls G (of_decide_eq_true h0) (of_decide_eq_true h1) h2 h3 (sE a G _ h4).1 (sE b G _ h5).1) rfl
    · cases h
  | .bi b es, sc, F, X, G, e, h => by
    unfold cE at h
    split at h
    · obtain ⟨h, h5⟩ := and2 h
      obtain ⟨h, h3⟩ := and2 h
      obtain ⟨h, h2⟩ := and2 h
      obtain ⟨h0, h1⟩ := and2 h
      have h0 := of_decide_eq_true h0
      subst h0
      exact tri (de_bi G.calm (G.tab.blt _ (of_decide_eq_true h1)) h2 G.hsc h3 (sA es G _ h5).2) rfl
    · cases h
  | .isi a t, sc, F, X, G, e, h => by
    unfold cE at h
    split at h
    · obtain ⟨h, h8⟩ := and2 h
      obtain ⟨h, h7⟩ := and2 h
      obtain ⟨h, h6⟩ := and2 h
      obtain ⟨h, h5⟩ := and2 h
      obtain ⟨h, h4⟩ := and2 h
      obtain ⟨h, h3⟩ := and2 h
      obtain ⟨h, h2⟩ := and2 h
      obtain ⟨h0, h1⟩ := and2 h
      have h0 := of_decide_eq_true h0
      have h3 := of_decide_eq_true h3
      subst h0 h3
      exact tri (de_isi G.hsc (G.tab.blt _ (of_decide_eq_true h1)) h2 (G.tab.blt _ (of_decide_eq_true h4)) h5 (of_decide_eq_true h6) h7 (sE a G _ h8).1) rfl
    · cases h
  | .meth m o a, sc, F, X, G, e, h => by
    unfold cE at h
    split at h
    · obtain ⟨h, h4⟩ := and2 h
      obtain ⟨h4, h5⟩ := and2 h4
      obtain ⟨h, h3⟩ := and2 h
      obtain ⟨h, h2⟩ := and2 h
      obtain ⟨h0, h1⟩ := and2 h
      have h0 := of_decide_eq_true h0
      subst h0
      exact tri (de_meth h1 h2 h3 (sE o G _ h4).1 (sE a G _ h5).1) rfl
    · cases h
  | .lc own it tg c x, sc, F, X, G, e, h => by
    unfold cE at h
    split at h
    · rename_i x' tg' it' c' n scope p
      obtain ⟨h, h7⟩ := and2 h
      obtain ⟨h, h6⟩ := and2 h
      obtain ⟨h, h5⟩ := and2 h
      obtain ⟨h, h4⟩ := and2 h
      obtain ⟨h, h3⟩ := and2 h
      obtain ⟨h, h2⟩ := and2 h
      obtain ⟨h0, h1⟩ := and2 h
      have h0 := of_decide_eq_true h0
      subst h0
      have hi := sI it G tg' it' h4
      have ok : BlkOk X.N X.env.scope scope (ownP N own) := by
        rw [G.hN, G.hsc]
        exact blkOk_by h1
      have gb : ∀ (s : Shared) (H : Hp) (C : Addr) (cl : List (Str × Addr)) (fp : List Addr), Good T Γ Cs N k B XP0 (relS scope sc) (X.blk s H scope (compEnvC scope cl C X.env) fp) := fun s H C cl fp => G.blk blk_scope
      have r := de_lc (wi := wI Γ Cs F it) (t := tg) (tc := wIfs Γ Cs c) (tE := wE Γ Cs XP0 x) (pos := p) (B := B) G.calm (by rw [G.hN]; exact G.nd) hi ok (by rw [own_map]; exact sub_of h2)
        (fun s H C cl fp => sG (gb s H C cl fp).hN G.nd (gb s H C cl fp).hsc G.calm (top := false) (fun z => absurd z Bool.false_ne_true) tg tg' h5)
        (fun s H C cl fp => sC c (gb s H C cl fp) c' h6)
        (fun s H C cl fp => (sE x (gb s H C cl fp) x' h7).1) (folded_no h3)
      rw [own_map] at r
      exact tri r rfl
    · cases h
  | .frz a, sc, F, X, G, e, h => by
    unfold cE at h
    exact tri (de_frz (sE a G _ h).1) rfl
theorem sP : ∀ (x : Exo) {sc : Scope} {F : XP} {X : Cx} (G : Good T Γ Cs N k B F sc X) (e : Option Expr), cP T Γ N k x sc e = true → PO X e (liftP X.w X.K B (wP Γ Cs F x))
  | .no, sc, F, X, G, e, h => by
    unfold cP at h
    cases e with
    | none => exact dp_none
    | some _ => cases h
  | .so x, sc, F, X, G, e, h => by
    unfold cP at h
    cases e with
    | none => cases h
    | some e => exact dp_some (sE x G e h).1
theorem sA : ∀ (x : Exs) {sc : Scope} {F : XP} {X : Cx} (G : Good T Γ Cs N k B F sc X) (es : List Expr), cA T Γ N k x sc es = true → allPl es = true ∧ PA X es (liftA X.w X.K B es.length (wA Γ Cs F x))
  | .nil, sc, F, X, G, es, h => by
    unfold cA at h
    cases es with
    | nil => exact ⟨rfl, da_nil⟩
    | cons => cases h
  | .cons x xs, sc, F, X, G, es, h => by
    unfold cA at h
    cases es with
    | nil => cases h
    | cons e es =>
      obtain ⟨h, h2⟩ := and2 h
      obtain ⟨h0, h1⟩ := and2 h
      obtain ⟨h3, h4⟩ := sA xs G es h2
      exact ⟨by show (isPl e && allPl es) = true; rw [h0, h3]; rfl, da_cons h0 (sE x G e h1).1 h4⟩
theorem sK : ∀ (x : Exs) {sc : Scope} {F : XP} {X : Cx} (G : Good T Γ Cs N k B F sc X) (es : List Keyword), cK T Γ N k x sc es = true → True ∧ PK X es (liftA X.w X.K B es.length (wA Γ Cs F x))
  | .nil, sc, F, X, G, es, h => by
    unfold cK at h
    cases es with
    | nil => exact ⟨trivial, dk_nil⟩
    | cons => cases h
  | .cons x xs, sc, F, X, G, es, h => by
    unfold cK at h
    cases es with
    | nil => cases h
    | cons e es =>
      obtain ⟨nm, e, kp⟩ := e
      obtain ⟨h1, h2⟩ := and2 h
      obtain ⟨_, h4⟩ := sK xs G es h2
      exact ⟨trivial, dk_cons (sE x G e h1).1 h4⟩
theorem sC : ∀ (x : Exs) {sc : Scope} {X : Cx} (G : Good T Γ Cs N k B XP0 sc X) (es : List Expr), cC T Γ N k x sc es = true → PTs X es (liftF X.w X.K B (wIfs Γ Cs x))
  | .nil, sc, X, G, es, h => by
    unfold cC at h
    cases es with
    | nil => exact df_nil
    | cons => cases h
  | .cons x xs, sc, X, G, es, h => by
    unfold cC at h
    split at h
    · obtain ⟨h1, h2⟩ := and2 h
      exact df_one ((sE x G _ h2).2.1 h1)
    · cases h
theorem sI : ∀ (x : Ix) {sc : Scope} {F : XP} {X : Cx} (G : Good T Γ Cs N k B F sc X) (tg e : Expr), cI T Γ N k x sc tg e = true → PI X tg e (liftI X.w X.K B (wI Γ Cs F x))
  | .seq x, sc, F, X, G, tg, e, h => by
    unfold cI at h
    exact di_seq (sE x G e h).1
  | .rng1 a, sc, F, X, G, tg, e, h => by
    unfold cI at h
    split at h
    · obtain ⟨h, h4⟩ := and2 h
      obtain ⟨h, h3⟩ := and2 h
      obtain ⟨h, h2⟩ := and2 h
      obtain ⟨h0, h1⟩ := and2 h
      have h0 := of_decide_eq_true h0
      subst h0
      exact di_rng1 (gl_of G.hsc h2).1 (G.tab.blt _ (of_decide_eq_true h1)) h3 (sE a G _ h4).1
    · cases h
  | .rng2 a b, sc, F, X, G, tg, e, h => by
    unfold cI at h
    split at h
    · obtain ⟨h, h4⟩ := and2 h
      obtain ⟨h4, h5⟩ := and2 h4
      obtain ⟨h, h3'⟩ := and2 h
      obtain ⟨h, h3⟩ := and2 h
      obtain ⟨h, h2⟩ := and2 h
      obtain ⟨h0, h1⟩ := and2 h
      have h0 := of_decide_eq_true h0
      subst h0
      exact di_rng2 (gl_of G.hsc h2).1 (G.tab.blt _ (of_decide_eq_true h1)) h3 h3' (sE a G _ h4).1 (sE b G _ h5).1
    · cases h
  | .enum a, sc, F, X, G, tg, e, h => by
    unfold cI at h
    split at h
    · obtain ⟨h, h4⟩ := and2 h
      obtain ⟨h, h3⟩ := and2 h
      obtain ⟨h, ht⟩ := and2 h
      obtain ⟨h, h2⟩ := and2 h
      obtain ⟨h0, h1⟩ := and2 h
      have h0 := of_decide_eq_true h0
      subst h0
      cases tg <;> try (cases ht; done)
      exact di_enum (gl_of G.hsc h2).1 (G.tab.blt _ (of_decide_eq_true h1)) h3 (sE a G _ h4).1
    · cases h
  | .zip a b, sc, F, X, G, tg, e, h => by
    unfold cI at h
    split at h
    · obtain ⟨h, h4⟩ := and2 h
      obtain ⟨h4, h5⟩ := and2 h4
      obtain ⟨h, h3'⟩ := and2 h
      obtain ⟨h, h3⟩ := and2 h
      obtain ⟨h, ht⟩ := and2 h
      obtain ⟨h, h2⟩ := and2 h
      obtain ⟨h0, h1⟩ := and2 h
      have h0 := of_decide_eq_true h0
      subst h0
      cases tg <;> try (cases ht; done)
      exact di_zip (gl_of G.hsc h2).1 (G.tab.blt _ (of_decide_eq_true h1)) h3 h3' (sE a G _ h4).1 (sE b G _ h5).1
    · cases h
end
end
end DL
namespace DL
open PySem PySem.Spec PyProof.Rows L2

/-! ### statements, defs -/
def addSub : Operator → Bool
  | .Add => true
  | .Sub => true
  | _ => false
theorem addSub_of {o : Operator} (h : addSub o = true) : o = .Add ∨ o = .Sub := by
  cases o <;> first | exact .inl rfl | exact .inr rfl | cases h
/-- name = [..]: is it stored within the comprehension's own frame -/
def swapC (sc cs : Scope) (y : Str) (py pos : Pos) : Bool :=
  decide (sc.names.lookup y = some .local) && (py.line == pos.line) && !(cs.names.any fun (n, k) => n == y && (k == .local || k == .cell))
section
variable (T : Tab) (Γ : Nat → Fn) (N : List Str) (k : Nat)
mutual
def cS (sc : Scope) : Stm → Stmt → Bool
  | .asg t e, st => (match st with
    | .Assign [tg] v p => (match tg with
      | .Name x px => (match v with
        | .ListComp _ _ cs pv => cG N true sc t tg && isNmT t && cE T Γ N k e sc v && (match e with | .lc .. => true | _ => false) && swapC sc cs x px pv
        | v => noComp v && cG N true sc t tg && isNmT t && cE T Γ N k e sc v)
      | .Tuple .. => noComp v && !(isTupE v) && cG N true sc t tg && cE T Γ N k e sc v
      | _ => false)
    | _ => false)
  | .aug i o e, st => (match st with
    | .AugAssign (.Name x _) o' v _ => decide (o' = o) && addSub o && decide (N[i]? = some x) && (locB sc x || cellB sc x) && cE T Γ N k e sc v
    | _ => false)
  | .ifs c a b, st => (match st with
    | .If c' a' b' _ => okT c c' && cE T Γ N k c sc c' && (cSs sc a a' && cSs sc b b')
    | _ => false)
  | .for_ t it b, st => (match st with
    | .For tg it' b' [] _ => noSet it' && cI T Γ N k it sc tg it' && cG N true sc t tg && cSs sc b b'
    | _ => false)
  | .whl c b, st => (match st with
    | .While c' b' [] _ => okT c c' && cE T Γ N k c sc c' && cSs sc b b'
    | _ => false)
  | .ret e, st => (match st with
    | .Return (some v) _ => cE T Γ N k e sc v
    | _ => false)
  | .retn, st => (match st with
    | .Return none _ => true
    | _ => false)
  | .brk, st => (match st with
    | .Break _ => true
    | _ => false)
  | .cont, st => (match st with
    | .Continue _ => true
    | _ => false)
  | .pass, st => (match st with
    | .Pass _ => true
    | _ => false)
  | .exp e, st => (match st with
    | .Expr v _ => noComp v && cE T Γ N k e sc v
    | _ => false)
  | .never, _ => true
def cSs (sc : Scope) : Stms → List Stmt → Bool
  | .nil, ss => (match ss with | [] => true | _ => false)
  | .cons a b, ss => (match ss with | x :: xs => cS sc a x && cSs sc b xs | [] => false)
end
end
section
variable {T : Tab} {Γ : Nat → Fn} {Cs : Nat → D} {N : List Str} {k : Nat} {B : Bs} {F : XP} {sc : Scope} {X : Cx}
theorem assigns1 {tg : Expr} {env : Env} (h : isPl tg = true) : (assignEach [tg] env).map (·.2) = [assign tg env] := by
  cases tg <;> first | rfl | cases h
theorem sole_no {tg e : Expr} {l : Nat} {env : Env} (h : noComp e = true) : swapsWithSole [tg] e l env = pure false := swaps_no h
theorem stores_no {tg e : Expr} {env : Env} (h : isTupE e = false) : swappedStores [tg] e env = pure none := by
  cases tg <;> cases e <;> first | rfl | cases h
theorem isNm_of {t : Tg} (h : isNmT t = true) : ∃ i, t = .nm i := by
  cases t with
  | nm i => exact ⟨i, rfl⟩
  | tup => cases h
theorem swapC_of {cs : Scope} {y : Str} {py pv : Pos} {elt : Expr} {gs : List Comprehension} {l : Nat} {env : Env} (hk : env.scope.kind = .function) (hs : env.scope = sc) (h : swapC sc cs y py pv = true) : env.scope.names.lookup y = some .local ∧ swapsWith (.ListComp elt gs cs pv) (some (.Name y py)) l env = pure true := by
  unfold swapC at h
  obtain ⟨h, h3⟩ := and2 h
  obtain ⟨h1, h2⟩ := and2 h
  have h1 := of_decide_eq_true h1
  rw [← hs] at h1
  exact ⟨h1, sw_true hk h1 h2 (by simpa using h3)⟩
variable (hk : X.env.scope.kind = .function) (hf : ∀ x, X.fn x = true)
mutual
theorem sS (G : Good T Γ Cs N k B F sc X) (hk : X.env.scope.kind = .function) (hf : ∀ x, X.fn x = true) : ∀ (s : Stm) (st : Stmt), cS T Γ N k sc s st = true → PS X st (liftSt X.w X.K B (wS Γ Cs F s))
  | .asg t e, st, h => by
    unfold cS at h
    split at h
    · rename_i tg v p
      split at h
      · rename_i x px
        split at h
        · rename_i elt gs cs pv
          obtain ⟨h, h4⟩ := and2 h
          obtain ⟨h, h3⟩ := and2 h
          obtain ⟨h, h2⟩ := and2 h
          obtain ⟨h0, h1⟩ := and2 h
          obtain ⟨i, rfl⟩ := isNm_of h1
          unfold cG at h0
          obtain ⟨n1, _⟩ := and2 h0
          have n1 := of_decide_eq_true n1
          cases e with
          | lc own it tg c x0 =>
            obtain ⟨l1, l2⟩ := swapC_of (elt := elt) (gs := gs) (l := p.line) hk G.hsc h4
            unfold cE at h2
            split at h2
            · rename_i x' tg' it' c' n scope p' ee
              cases ee
              obtain ⟨h, h7⟩ := and2 h2
              obtain ⟨h, h6⟩ := and2 h
              obtain ⟨h, h5⟩ := and2 h
              obtain ⟨h, h4⟩ := and2 h
              obtain ⟨h, h3⟩ := and2 h
              obtain ⟨h, hsub⟩ := and2 h
              obtain ⟨h0, h1⟩ := and2 h
              have h0 := of_decide_eq_true h0
              subst h0
              have hi := sI it G tg' it' h4
              have ok : BlkOk X.N X.env.scope cs (ownP N own) := by
                rw [G.hN, G.hsc]
                exact blkOk_by h1
              have gb : ∀ (s : Shared) (H : Hp) (C : Addr) (cl : List (Str × Addr)) (fp : List Addr), Good T Γ Cs N k B XP0 (relS cs sc) (X.blk s H cs (compEnvC cs cl C X.env) fp) := fun s H C cl fp => G.blk blk_scope
              have r := ds_setLc (i := i) (py := px) (wi := wI Γ Cs F it) (t := tg) (tc := wIfs Γ Cs c) (tE := wE Γ Cs XP0 x0) (pos := pv) (spos := p) (B := B) G.calm (by rw [G.hN]; exact G.nd) (by rw [G.hN]; exact n1) l1 l2 hi ok (by rw [own_map]; exact sub_of hsub)
                (fun s H C cl fp => sG (gb s H C cl fp).hN G.nd (gb s H C cl fp).hsc G.calm (top := false) (fun z => absurd z Bool.false_ne_true) tg tg' h5)
                (fun s H C cl fp => sC c (gb s H C cl fp) c' h6)
                (fun s H C cl fp => (sE x0 (gb s H C cl fp) elt h7).1) (folded_no h3)
              rw [own_map] at r
              exact r
            · cases h2
          | _ => cases h3
        · obtain ⟨h, h3⟩ := and2 h
          obtain ⟨h, h2⟩ := and2 h
          obtain ⟨h0, h1⟩ := and2 h
          obtain ⟨i, rfl⟩ := isNm_of h2
          have hg := sG (sc := sc) G.hN G.nd G.hsc G.calm (fun _ => hf) (.nm i) (.Name x px) h1
          exact ds_asg (sE e G _ h3).1 hg (sole_no h0) (by cases v <;> rfl) rfl
      · obtain ⟨h, h3⟩ := and2 h
        obtain ⟨h, h2⟩ := and2 h
        obtain ⟨h0, h1⟩ := and2 h
        have hg := sG (sc := sc) G.hN G.nd G.hsc G.calm (fun _ => hf) t _ h2
        exact ds_asg (sE e G _ h3).1 hg (sole_no h0) (stores_no (by simpa using h1)) rfl
      · cases h
    · cases h
  | .aug i o e, st, h => by
    unfold cS at h
    split at h
    · rename_i x p o' v p'
      obtain ⟨h, h4⟩ := and2 h
      obtain ⟨h, h3⟩ := and2 h
      obtain ⟨h, h2⟩ := and2 h
      obtain ⟨h0, h1⟩ := and2 h
      have h0 := of_decide_eq_true h0
      subst h0
      have hx : Loc X.env.scope x := by
        rw [G.hsc]
        rcases (Bool.or_eq_true _ _).mp h3 with z | z
        · exact .inl (of_decide_eq_true z)
        · exact .inr (of_decide_eq_true z)
      exact ds_aug (addSub_of h1) (by rw [G.hN]; exact G.nd) (by rw [G.hN]; exact of_decide_eq_true h2) hx (.inl (hf x)) (sE e G _ h4).1
    · cases h
  | .ifs c a b, st, h => by
    unfold cS at h
    split at h
    · obtain ⟨h, h2⟩ := and2 h
      obtain ⟨h2, h3⟩ := and2 h2
      obtain ⟨h0, h1⟩ := and2 h
      exact ds_if ((sE c G _ h1).2.1 h0) (sSs G hk hf a _ h2) (sSs G hk hf b _ h3)
    · cases h
  | .for_ t it b, st, h => by
    unfold cS at h
    split at h
    · obtain ⟨h, h3⟩ := and2 h
      obtain ⟨h, h2⟩ := and2 h
      obtain ⟨h0, h1⟩ := and2 h
      exact ds_for G.pas G.calm (sI it G _ _ h1) (sG (sc := sc) G.hN G.nd G.hsc G.calm (fun _ => hf) t _ h2) (sSs G hk hf b _ h3) (folded_no h0)
    · cases h
  | .whl c b, st, h => by
    unfold cS at h
    split at h
    · obtain ⟨h, h2⟩ := and2 h
      obtain ⟨h0, h1⟩ := and2 h
      exact ds_whl G.pas ((sE c G _ h1).2.1 h0) (sSs G hk hf b _ h2)
    · cases h
  | .ret e, st, h => by
    unfold cS at h
    split at h
    · exact ds_ret (sE e G _ h).1
    · cases h
  | .retn, st, h => by
    unfold cS at h
    split at h
    · exact ds_retn
    · cases h
  | .brk, st, h => by
    unfold cS at h
    split at h
    · exact ds_brk
    · cases h
  | .cont, st, h => by
    unfold cS at h
    split at h
    · exact ds_cont
    · cases h
  | .pass, st, h => by
    unfold cS at h
    split at h
    · exact ds_pass
    · cases h
  | .exp e, st, h => by
    unfold cS at h
    split at h
    · obtain ⟨h0, h1⟩ := and2 h
      exact ds_exp (sE e G _ h1).1 (swaps_no h0)
    · cases h
  | .never, st, h => ds_never
theorem sSs (G : Good T Γ Cs N k B F sc X) (hk : X.env.scope.kind = .function) (hf : ∀ x, X.fn x = true) : ∀ (s : Stms) (st : List Stmt), cSs T Γ N k sc s st = true → PSs X st (liftSt X.w X.K B (wSs Γ Cs F s))
  | .nil, st, h => by
    unfold cSs at h
    cases st with
    | nil => exact dss_nil
    | cons => cases h
  | .cons a b, st, h => by
    unfold cSs at h
    cases st with
    | nil => cases h
    | cons x xs =>
      obtain ⟨h1, h2⟩ := and2 h
      exact (dss_cons (sS G hk hf a x h1) (sSs G hk hf b xs h2) : PSs X (x :: xs) (liftSt X.w X.K B fun k s S => wS Γ Cs F a { k with nx := wSs Γ Cs F b k } s S))
end
end

/-- the slots at a def's entry -/
def startD (n : Nat) (ds : List D) : SD := ds.map some ++ List.replicate (n - ds.length) none
theorem start_rs {w : World} {K : PySem.W.Frag} {H : Hp} {N : List Str} {vs : List V} {ds : List D} (r : RVs w K H vs ds) : RS w K H (L2.start N vs) (startD N.length ds) := by
  have hl := r.length
  refine ⟨by unfold L2.start startD; simp [hl], fun i d e => ?_⟩
  rw [getS_at] at e
  unfold startD at e
  unfold L2.start
  by_cases hi : i < ds.length
  · rw [List.getElem?_append_left (by simpa using hi), List.getElem?_map] at e
    rw [List.getElem?_append_left (by simpa [hl] using hi), List.getElem?_map]
    cases q : ds[i]? with
    | none => rw [q] at e; cases e
    | some d' =>
      rw [q] at e
      cases e
      obtain ⟨v, h1, h2⟩ := r.get q
      exact ⟨v, by rw [h1]; rfl, h2⟩
  · rw [List.getElem?_append_right (by simpa using hi), List.getElem?_replicate] at e
    split at e <;> cases e
/-- THE RULE: a def keeps its data promise, by its body's meaning -/
theorem def_ok {P : Program} {w : World} {K : PySem.W.Frag} {mg : Str → Option Value} {base : Heap} {T : Tab} {Γ : Nat → Fn} {Cs : Nat → D} {N ps : List Str} {k : Nat} {x qual : Str} {params : Arguments} {body : List Stmt} {scope : Scope} {dvs : List V} {kws : List (Str × V)} {f : Addr} {fd : FuncData} {fn : Fn} {b : Stms}
    (tab : TabOk T Γ Cs P w K mg base) (F : FunD K x qual params body scope dvs kws f fd) (S : FnScope N ps scope) (hl : fn.lv = k + 1) (ha : ps.length = fn.ar)
    (chk : cSs T Γ N k scope b body = true) (pure : ∀ ds S R E, ds.length = fn.ar → fn.sp ds S R E → wSs Γ Cs E b ⟨fun _ S' => R .non S', R, fun _ _ => False, fun _ _ => False⟩ (startD N.length ds) S) :
    FnOk P w K mg base (L2.CX P w) fn.lv f fd ps (lsp w K mg fn) := by
  rw [hl]
  refine F.ok S (fun vs H Q E h => ?_) (fun cdv A outer s H vs Q E hr h => ?_)
  · obtain ⟨ds, S, R, F, h1, h2, _⟩ := h
    rw [h2.length, h1, ha]
  · obtain ⟨ds, S0, R, F0, h1, h2, h3, h4, h5, h6⟩ := h
    have G : Good T Γ Cs N k (S0, H) F0 scope (cxOf (L2.CX P w) P w K mg base N qual scope f cdv A outer s H E) := by
      refine ⟨rfl, S.nd, rfl, rfl, hr, tab, passes_of rfl, fun E' hE => ?_⟩
      exact passes_call (takes_of rfl rfl rfl rfl) fun cls d _ H' z => h6 cls d H' (hE cls d H' z)
    refine ⟨_, sSs G S.kind (fun _ => rfl) b body chk, startD N.length ds, S0, _, start_rs h2, h3, Ext.refl, pure ds S0 R F0 h1 h4, ⟨fun s' S' h σ' H' x' _ hS' => h5 _ _ h _ _ x' .non hS', h5, fun _ _ z => z.elim, fun _ _ z => z.elim⟩⟩
end DL
/-! ways to run a body's meaning -/
namespace DL
open PySem PySem.Spec PyProof.Rows L2

theorem optW_some {α : Type} {a : α} {k : α → Prop} : optW (some a) k = k a := rfl
theorem optW_none {α : Type} {k : α → Prop} : optW none k = False := rfl
theorem optW_map {α β : Type} {o : Option α} {f : α → β} {k : β → Prop} : optW (o.map f) k = optW o fun a => k (f a) := by cases o <;> rfl
theorem optW_guard {α : Type} {b : Bool} {a : α} {k : α → Prop} : optW (guardO b a) k = (b = true ∧ k a) := by
  cases b
  · show False = _
    simp
  · show k a = _
    simp
/-! isinstance -/
theorem kb1 : kitB "NoneType" "int" = some false ∧ kitB "bool" "int" = some true ∧ kitB "int" "int" = some true ∧ kitB "str" "int" = some false ∧ kitB "tuple" "int" = some false ∧ kitB "list" "int" = some false := by decide +kernel
theorem kb2 : kitB "NoneType" "bool" = some false ∧ kitB "bool" "bool" = some true ∧ kitB "int" "bool" = some false ∧ kitB "str" "bool" = some false ∧ kitB "tuple" "bool" = some false ∧ kitB "list" "bool" = some false := by decide +kernel
theorem kb3 : kitB "NoneType" "tuple" = some false ∧ kitB "bool" "tuple" = some false ∧ kitB "int" "tuple" = some false ∧ kitB "str" "tuple" = some false ∧ kitB "tuple" "tuple" = some true ∧ kitB "list" "tuple" = some false := by decide +kernel
theorem kb4 : kitB "NoneType" "list" = some false ∧ kitB "bool" "list" = some false ∧ kitB "int" "list" = some false ∧ kitB "str" "list" = some false ∧ kitB "tuple" "list" = some false ∧ kitB "list" "list" = some true := by decide +kernel
theorem kb5 : kitB "NoneType" "str" = some false ∧ kitB "bool" "str" = some false ∧ kitB "int" "str" = some false ∧ kitB "str" "str" = some true ∧ kitB "tuple" "str" = some false ∧ kitB "list" "str" = some false := by decide +kernel
/-- nothing in it may change, no dict -/
def val : D → Bool
  | .loc _ => false
  | .dct _ _ => false
  | _ => true
def isIntD : D → Bool
  | .int _ => true
  | .bl _ => true
  | _ => false
def isBoolD : D → Bool
  | .bl _ => true
  | _ => false
def isStrD : D → Bool
  | .str _ => true
  | _ => false
def isLstD : D → Bool
  | .lst _ => true
  | _ => false
theorem isi_int {S : Sto} {d : D} (h : val d = true) : isiD S d "int" = some (isIntD d) := by
  obtain ⟨a1, a2, a3, a4, a5, a6⟩ := kb1
  cases d <;> first | (cases h; done) | (simp only [isiD, tyD, Option.bind_some, isIntD]; assumption)
theorem isi_bool {S : Sto} {d : D} (h : val d = true) : isiD S d "bool" = some (isBoolD d) := by
  obtain ⟨a1, a2, a3, a4, a5, a6⟩ := kb2
  cases d <;> first | (cases h; done) | (simp only [isiD, tyD, Option.bind_some, isBoolD]; assumption)
theorem isi_tuple {S : Sto} {d : D} (h : val d = true) : isiD S d "tuple" = some (isTupD d) := by
  obtain ⟨a1, a2, a3, a4, a5, a6⟩ := kb3
  cases d <;> first | (cases h; done) | (simp only [isiD, tyD, Option.bind_some, isTupD]; assumption)
theorem isi_list {S : Sto} {d : D} (h : val d = true) : isiD S d "list" = some (isLstD d) := by
  obtain ⟨a1, a2, a3, a4, a5, a6⟩ := kb4
  cases d <;> first | (cases h; done) | (simp only [isiD, tyD, Option.bind_some, isLstD]; assumption)
theorem isi_str {S : Sto} {d : D} (h : val d = true) : isiD S d "str" = some (isStrD d) := by
  obtain ⟨a1, a2, a3, a4, a5, a6⟩ := kb5
  cases d <;> first | (cases h; done) | (simp only [isiD, tyD, Option.bind_some, isStrD]; assumption)
mutual
/-- nothing in it may change, no dict, at any depth -/
def imm : D → Bool
  | .loc _ => false
  | .dct _ _ => false
  | .tup ds => imms ds
  | .lst ds => imms ds
  | _ => true
def imms : List D → Bool
  | [] => true
  | d :: ds => imm d && imms ds
end
theorem imm_val {d : D} (h : imm d = true) : val d = true := by cases d <;> first | rfl | cases h
theorem imms_all {ds : List D} : imms ds = true ↔ ∀ d ∈ ds, imm d = true := by
  induction ds with
  | nil => simp [imms]
  | cons d ds ih => rw [imms, Bool.and_eq_true, ih]; simp
/-! equality of data -/
theorem pdOf_val {S : Sto} {d : D} (h : val d = true) : pdOf S d = toPD d := by cases d <;> first | rfl | cases h
theorem shaped_int {i : Int} : SeqAt.shaped (.int i) = true := by simp [SeqAt.shaped, PyData.canLay0, PyData.depth]
theorem eqD_str {S : Sto} {a b : Str} : eqD S (.str a) (.str b) = some (decide (a = b)) := rfl
theorem eqD_int {S : Sto} {a b : Int} : eqD S (.int a) (.int b) = some (decide (a = b)) := by
  simp only [eqD, pdOf, toPD, shaped_int, Bool.and_self, guardO, if_true, PyData.eqv]
  congr 1
end DL
/-! loops, slices, ints -/
namespace DL
open PySem PySem.Spec PyProof.Rows L2

theorem lcW_map {g : Gd} {step : D → Sto → (Option D → Sto → Prop) → Prop} {f : D → D} {S : Sto} {Q : List D → Sto → Prop} : ∀ {ds acc : List D},
    (∀ d ∈ ds, ∀ R : Option D → Sto → Prop, R (some (f d)) S → step d S R) → g S → Q (acc ++ ds.map f) S → lcW g step ds acc S Q
  | [], acc, _, hg, h => ⟨hg, by simpa using h⟩
  | d :: ds, acc, hs, hg, h => ⟨hg, hs d (List.mem_cons_self ..) _ (lcW_map (fun e he => hs e (List.mem_cons_of_mem _ he)) hg (by simpa using h))⟩
theorem lcW_fm {g : Gd} {step : D → Sto → (Option D → Sto → Prop) → Prop} {f : D → Option D} {S : Sto} {Q : List D → Sto → Prop} : ∀ {ds acc : List D},
    (∀ d ∈ ds, ∀ R : Option D → Sto → Prop, R (f d) S → step d S R) → g S → Q (acc ++ ds.filterMap f) S → lcW g step ds acc S Q
  | [], acc, _, hg, h => ⟨hg, by simpa using h⟩
  | d :: ds, acc, hs, hg, h => ⟨hg, hs d (List.mem_cons_self ..) _ (lcW_fm (fun e he => hs e (List.mem_cons_of_mem _ he)) hg (by
      cases q : f d <;> simp [q] at h ⊢ <;> exact h))⟩
/-- a for loop, by what stands before each item -/
theorem forW_inv {g : Gd} {step : D → (SD → Sto → Prop) → SD → Sto → Prop} {k : SD → Sto → Prop} (P : List D → SD → Sto → Prop)
    (hstep : ∀ d ds s S nxt, P (d :: ds) s S → (∀ s' S', P ds s' S' → nxt s' S') → g S ∧ step d nxt s S) (hend : ∀ s S, P [] s S → g S ∧ k s S) :
    ∀ {ds : List D} {s : SD} {S : Sto}, P ds s S → forW g step ds k s S
  | [], s, S, h => hend s S h
  | d :: ds, s, S, h => hstep d ds s S _ h fun s' S' h' => forW_inv P hstep hend h'
/-- a for loop that may be left by break -/
theorem forW_brk {g : Gd} {step : D → (SD → Sto → Prop) → SD → Sto → Prop} {k : SD → Sto → Prop} (P : List D → SD → Sto → Prop)
    (hend : ∀ s S, P [] s S → g S ∧ k s S)
    (hstep : (∀ s S, P [] s S → k s S) → ∀ d ds s S nxt, P (d :: ds) s S → (∀ s' S', P ds s' S' → nxt s' S') → g S ∧ step d nxt s S) {ds : List D} {s : SD} {S : Sto} (h : P ds s S) : forW g step ds k s S :=
  forW_inv P (hstep fun s S h => (hend s S h).2) hend h
/-! slices -/
theorem cut_from {α : Type} {xs : List α} {k : Nat} : cutD xs (some (k : Int)) none = xs.drop k := by
  unfold cutD
  have h : HT.sIx xs.length xs.length none = xs.length := rfl
  have h2 : HT.sIx xs.length 0 (some (k : Int)) = min k xs.length := by
    unfold HT.sIx
    simp
    try omega
  rw [h, h2]
  rw [List.take_of_length_le (by simp)]
  by_cases q : k ≤ xs.length
  · rw [Nat.min_eq_left q]
  · rw [Nat.min_eq_right (by omega), List.drop_of_length_le (Nat.le_refl _), List.drop_of_length_le (by omega)]
theorem cut_to {α : Type} {xs : List α} {k : Nat} : cutD xs none (some (k : Int)) = xs.take k := by
  unfold cutD
  have h : HT.sIx xs.length 0 none = 0 := rfl
  have h2 : HT.sIx xs.length xs.length (some (k : Int)) = min k xs.length := by
    unfold HT.sIx
    simp
    try omega
  rw [h, h2]
  simp [List.take_eq_take_iff]
theorem cut_mid {α : Type} {xs : List α} {k m : Nat} : cutD xs (some (k : Int)) (some (m : Int)) = (xs.take m).drop k := by
  unfold cutD
  have h1 : HT.sIx xs.length 0 (some (k : Int)) = min k xs.length := by
    unfold HT.sIx
    simp
    try omega
  have h2 : HT.sIx xs.length xs.length (some (m : Int)) = min m xs.length := by
    unfold HT.sIx
    simp
    try omega
  rw [h1, h2, List.drop_take]
  by_cases q : k ≤ xs.length
  · rw [Nat.min_eq_left q, List.take_eq_take_iff]
    simp
    omega
  · have e : min k xs.length = xs.length := Nat.min_eq_right (by omega)
    rw [e, List.drop_of_length_le (Nat.le_refl _), List.drop_of_length_le (by omega)]
    simp
theorem cut_last {α : Type} {xs : List α} : cutD xs none (some (-1)) = xs.dropLast := by
  unfold cutD
  have h : HT.sIx xs.length 0 none = 0 := rfl
  have h2 : HT.sIx xs.length xs.length (some (-1)) = xs.length - 1 := by
    unfold HT.sIx
    simp
    try omega
  rw [h, h2, List.dropLast_eq_take]
  simp
/-! two things that may change -/
theorem Sto.comm {S : Sto} {a b : Addr} {o u : DO} (h : a ≠ b) : (S.set a o).set b u = (S.set b u).set a o := by
  funext c; unfold Sto.set; split <;> split <;> first | rfl | (rename_i p q; exact absurd (q.symm.trans p) h)
theorem Sto.get2 {S : Sto} {a b : Addr} {o u : DO} (h : a ≠ b) : (S.set a o).set b u a = some o := by rw [Sto.set_ne h, Sto.set_same]
theorem Sto.set2 {S : Sto} {a b : Addr} {o u w : DO} (h : a ≠ b) : ((S.set a o).set b u).set a w = (S.set a w).set b u := by
  rw [Sto.comm h, Sto.set_set, ← Sto.comm h]
theorem Sto.del2 {S : Sto} {a b : Addr} {o u : DO} (h : a ≠ b) (ha : S a = none) : ((S.set a o).set b u).del a = S.set b u := by
  rw [Sto.comm h, Sto.del_set (by rw [Sto.set_ne h, ha])]
/-! indexes -/
theorem at_nat {ds : List D} {k : Nat} (h : k < ds.length) : atI ds (k : Int) = ds[k]? := by
  unfold atI ixN
  simp [h]
end DL
/-! data that may be laid and compared -/
namespace DL
open PySem PySem.Spec PyProof.Rows L2
mutual
/-- no dict, nothing that may change, at most n deep -/
def ok0 : Nat → D → Bool
  | _, .non => true
  | _, .bl _ => true
  | _, .int _ => true
  | _, .str x => PyData.strOk x
  | n + 1, .tup ds => ok0s n ds
  | n + 1, .lst ds => ok0s n ds
  | _, _ => false
def ok0s : Nat → List D → Bool
  | _, [] => true
  | n, d :: ds => ok0 n d && ok0s n ds
end
mutual
theorem ok0_pd : ∀ (n : Nat) (d : D), ok0 n d = true → ∃ p, toPD d = some p ∧ p.canLay0 = true ∧ p.depth ≤ n + 1
  | n, .non, _ => ⟨_, rfl, by simp [PyData.canLay0], by simp [PyData.depth]⟩
  | n, .bl b, _ => ⟨_, rfl, by simp [PyData.canLay0], by simp [PyData.depth]⟩
  | n, .int b, _ => ⟨_, rfl, by simp [PyData.canLay0], by simp [PyData.depth]⟩
  | n, .str b, h => ⟨.str b, rfl, by rw [PyData.canLay0]; cases n <;> exact h, by simp [PyData.depth]⟩
  | 0, .tup ds, h => by cases h
  | 0, .lst ds, h => by cases h
  | n + 1, .tup ds, h => by
    obtain ⟨ps, h1, h2, h3⟩ := ok0s_pd n ds h
    exact ⟨.tuple ps, by rw [toPD, h1]; rfl, by rw [PyData.canLay0]; exact h2, by rw [PyData.depth]; omega⟩
  | n + 1, .lst ds, h => by
    obtain ⟨ps, h1, h2, h3⟩ := ok0s_pd n ds h
    exact ⟨.list ps, by rw [toPD, h1]; rfl, by rw [PyData.canLay0]; exact h2, by rw [PyData.depth]; omega⟩
  | 0, .dct .., h => by cases h
  | n + 1, .dct .., h => by cases h
  | 0, .loc .., h => by cases h
  | n + 1, .loc .., h => by cases h
theorem ok0s_pd : ∀ (n : Nat) (ds : List D), ok0s n ds = true → ∃ ps, toPDs ds = some ps ∧ PyData.canLayAll0 ps = true ∧ PyData.depthAll ps ≤ n + 1
  | n, [], _ => ⟨[], rfl, by simp [PyData.canLayAll0], by simp [PyData.depthAll]⟩
  | n, d :: ds, h => by
    rw [ok0s, Bool.and_eq_true] at h
    obtain ⟨p, a1, a2, a3⟩ := ok0_pd n d h.1
    obtain ⟨ps, b1, b2, b3⟩ := ok0s_pd n ds h.2
    exact ⟨p :: ps, by rw [toPDs, a1, b1], by rw [PyData.canLayAll0, a2, b2]; rfl, by rw [PyData.depthAll]; omega⟩
end
theorem ok0s_all {n : Nat} {ds : List D} : ok0s n ds = true ↔ ∀ d ∈ ds, ok0 n d = true := by
  induction ds with
  | nil => simp [ok0s]
  | cons d ds ih => rw [ok0s, Bool.and_eq_true, ih]; simp
mutual
theorem ok0_mono' : ∀ (n m : Nat) (d : D), n ≤ m → ok0 n d = true → ok0 m d = true
  | n, m, .non, _, _ => by cases m <;> rfl
  | n, m, .bl b, _, _ => by cases m <;> rfl
  | n, m, .int b, _, _ => by cases m <;> rfl
  | n, m, .str b, _, h => by cases n <;> cases m <;> exact h
  | 0, m, .tup ds, _, h => by cases h
  | 0, m, .lst ds, _, h => by cases h
  | n + 1, 0, .tup ds, h, _ => by omega
  | n + 1, 0, .lst ds, h, _ => by omega
  | n + 1, m + 1, .tup ds, h, g => ok0s_mono' n m ds (by omega) g
  | n + 1, m + 1, .lst ds, h, g => ok0s_mono' n m ds (by omega) g
  | 0, m, .dct .., _, h => by cases h
  | n + 1, m, .dct .., _, h => by cases h
  | 0, m, .loc .., _, h => by cases h
  | n + 1, m, .loc .., _, h => by cases h
theorem ok0s_mono' : ∀ (n m : Nat) (ds : List D), n ≤ m → ok0s n ds = true → ok0s m ds = true
  | n, m, [], _, _ => by rfl
  | n, m, d :: ds, h, g => by
    rw [ok0s, Bool.and_eq_true] at g
    rw [ok0s, ok0_mono' n m d h g.1, ok0s_mono' n m ds h g.2]; rfl
end
theorem ok0_val {n : Nat} {d : D} (h : ok0 n d = true) : val d = true := by cases d <;> first | rfl | (cases n <;> cases h)
mutual
theorem ok0_imm : ∀ (n : Nat) (d : D), ok0 n d = true → imm d = true
  | n, .non, _ => rfl
  | n, .bl b, _ => rfl
  | n, .int b, _ => rfl
  | n, .str b, h => rfl
  | 0, .tup ds, h => by cases h
  | 0, .lst ds, h => by cases h
  | n + 1, .tup ds, h => ok0s_imm n ds h
  | n + 1, .lst ds, h => ok0s_imm n ds h
  | 0, .dct .., h => by cases h
  | n + 1, .dct .., h => by cases h
  | 0, .loc .., h => by cases h
  | n + 1, .loc .., h => by cases h
theorem ok0s_imm : ∀ (n : Nat) (ds : List D), ok0s n ds = true → imms ds = true
  | n, [], _ => rfl
  | n, d :: ds, h => by
    rw [ok0s, Bool.and_eq_true] at h
    rw [imms, ok0_imm n d h.1, ok0s_imm n ds h.2]; rfl
end
theorem ok0_shaped {n : Nat} {d : D} {S : Sto} (h : ok0 n d = true) (hn : n ≤ 60) : ∃ p, toPD d = some p ∧ pdOf S d = some p ∧ SeqAt.shaped p = true := by
  obtain ⟨p, a1, a2, a3⟩ := ok0_pd n d h
  refine ⟨p, a1, by rw [pdOf_val (ok0_val h)]; exact a1, ?_⟩
  unfold SeqAt.shaped
  rw [a2, decide_eq_true (by omega)]; rfl
/-- a thing is as itself -/
theorem eqD_self {n : Nat} {d : D} {S : Sto} (h : ok0 n d = true) (hn : n ≤ 60) : eqD S d d = some true := by
  obtain ⟨p, a1, a2, a3⟩ := ok0_shaped (S := S) h hn
  have e : PyData.eqv p p = true := SeqAt.eqv_refl p ((Bool.and_eq_true _ _).mp a3).1
  cases d <;> first | (simp [eqD]; done) | (simp -implicitDefEqProofs only [eqD, a2, a3, e, Bool.and_self, guardO, if_true])
/-- a list that may change and a list with the same data -/
theorem eqD_copy {n : Nat} {ds : List D} {S : Sto} {a : Addr} (h : ok0 n (.lst ds) = true) (hn : n ≤ 60) (ha : S a = some (.lst ds)) : eqD S (.lst ds) (.loc a) = some true := by
  obtain ⟨p, a1, a2, a3⟩ := ok0_shaped (S := S) h hn
  have e : PyData.eqv p p = true := SeqAt.eqv_refl p ((Bool.and_eq_true _ _).mp a3).1
  have q : pdOf S (.loc a) = some p := by
    show (match S a with | some (.lst ds) => (toPDs ds).map PyData.list | _ => none) = some p
    rw [ha]
    exact a1
  simp -implicitDefEqProofs only [eqD, a2, q, a3, e, Bool.and_self, guardO, if_true]
/-- == of two things, by what the library's data say -/
theorem eqD_pd {n : Nat} {d e : D} {p q : PyData} {b : Bool} {S : Sto} (h : ok0 n d = true) (g : ok0 n e = true) (hn : n ≤ 60) (hp : toPD d = some p) (hq : toPD e = some q) (hb : PyData.eqv p q = b) : eqD S d e = some b := by
  obtain ⟨p', a1, a2, a3⟩ := ok0_shaped (S := S) h hn
  obtain ⟨q', b1, b2, b3⟩ := ok0_shaped (S := S) g hn
  rw [hp] at a1; cases a1
  rw [hq] at b1; cases b1
  have go : (match pdOf S d, pdOf S e with
    | some p, some q => guardO (SeqAt.shaped p && SeqAt.shaped q) (PyData.eqv p q)
    | _, _ => none) = some b := by
    rw [a2, b2]
    simp -implicitDefEqProofs only [a3, b3, hb, Bool.and_self, guardO, if_true]
  cases d with
  | str x => cases e with
    | str y =>
      cases hp; cases hq
      rw [PyData.eqv] at hb
      rw [eqD_str, ← hb]
      congr 1
    | _ => exact go
  | _ => exact go
theorem toPDs_int : ∀ {ns : List Int}, toPDs (ns.map D.int) = some (ns.map PyData.int)
  | [] => rfl
  | n :: ns => by rw [List.map_cons, toPDs, toPDs_int]; rfl
theorem ok0s_int {n : Nat} {ns : List Int} : ok0s n (ns.map D.int) = true := by
  rw [ok0s_all]
  intro d h
  obtain ⟨i, _, rfl⟩ := List.mem_map.mp h
  cases n <;> rfl
theorem eqv_ints : ∀ {ns ms : List Int}, PyData.eqvAll (ns.map PyData.int) (ms.map PyData.int) = decide (ns = ms)
  | [], [] => by simp [PyData.eqvAll]
  | [], m :: ms => by simp [PyData.eqvAll]
  | n :: ns, [] => by simp [PyData.eqvAll]
  | n :: ns, m :: ms => by
    rw [List.map_cons, List.map_cons, PyData.eqvAll, eqv_ints, PyData.eqv]
    by_cases a : n = m <;> by_cases b : ns = ms <;> simp [a, b]
theorem eqD_ints {S : Sto} {xs ys : List Int} : eqD S (.tup (xs.map D.int)) (.tup (ys.map D.int)) = some (decide (xs = ys)) :=
  eqD_pd (n := 1) (p := .tuple (xs.map PyData.int)) (q := .tuple (ys.map PyData.int)) ok0s_int ok0s_int (by omega) (by rw [toPD, toPDs_int]; rfl) (by rw [toPD, toPDs_int]; rfl) (by rw [PyData.eqv, eqv_ints])
theorem eqD_ints_nil {S : Sto} {xs : List Int} : eqD S (.tup (xs.map D.int)) (.tup []) = some (decide (xs = [])) := eqD_ints (ys := [])
/-- a list against [] -/
theorem eqD_nil {n : Nat} {ds : List D} {S : Sto} (h : ok0 n (.lst ds) = true) (hn : n ≤ 60) : eqD S (.lst ds) (.lst []) = some ds.isEmpty := by
  obtain ⟨p, a1, -, -⟩ := ok0_shaped (S := S) h hn
  refine eqD_pd (n := n) (p := p) (q := .list []) h ?_ hn a1 rfl ?_
  · cases n with
    | zero => cases h
    | succ n => rfl
  · cases ds with
    | nil =>
      cases a1
      simp [PyData.eqv, PyData.eqvAll]
    | cons d ds =>
      rw [toPD] at a1
      cases z : toPDs (d :: ds) with
      | none => rw [z] at a1; cases a1
      | some ps =>
        rw [z] at a1; cases a1
        cases ps with
        | nil =>
          rw [toPDs] at z
          split at z <;> cases z
        | cons p ps => simp [PyData.eqv, PyData.eqvAll]
/-! ints in a tuple or list -/
theorem at_map {α : Type} {f : α → D} {xs : List α} {k : Nat} {x : α} (h : xs[k]? = some x) : atI (xs.map f) (k : Int) = some (f x) := by
  have hl : k < xs.length := by
    rcases Nat.lt_or_ge k xs.length with q | q
    · exact q
    · rw [List.getElem?_eq_none q] at h; cases h
  rw [at_nat (by simpa using hl), List.getElem?_map, h]; rfl
theorem bools_map {α : Type} {p : α → Bool} : ∀ {xs : List α}, boolsOf (xs.map fun x => D.bl (p x)) = some (xs.map p)
  | [] => rfl
  | x :: xs => by rw [List.map_cons, boolsOf, bools_map]; rfl
theorem map_cut {α β : Type} {f : α → β} {xs : List α} {lo hi : Option Int} : cutD (xs.map f) lo hi = (cutD xs lo hi).map f := by
  unfold cutD
  rw [List.length_map, List.map_take, List.map_drop]
theorem cut_midI {α : Type} {xs : List α} {lo hi : Int} (h : 0 ≤ lo) (g : 0 ≤ hi) : cutD xs (some lo) (some hi) = (xs.take hi.toNat).drop lo.toNat := by
  obtain ⟨k, rfl⟩ := Int.eq_ofNat_of_zero_le h
  obtain ⟨m, rfl⟩ := Int.eq_ofNat_of_zero_le g
  exact cut_mid
theorem cut_toI {α : Type} {xs : List α} {hi : Int} (g : 0 ≤ hi) : cutD xs none (some hi) = xs.take hi.toNat := by
  obtain ⟨m, rfl⟩ := Int.eq_ofNat_of_zero_le g
  exact cut_to
theorem cut_fromI {α : Type} {xs : List α} {lo : Int} (g : 0 ≤ lo) : cutD xs (some lo) none = xs.drop lo.toNat := by
  obtain ⟨m, rfl⟩ := Int.eq_ofNat_of_zero_le g
  exact cut_from
end DL
/-! the operators, one by one -/
namespace DL
open PySem PySem.Spec PyProof.Rows L2
variable {S : Sto} {i j : Int} {x y : D} {ds es : List D}
theorem cmpLt : cmpD .Lt S (.int i) (.int j) = some (decide (i < j)) := rfl
theorem cmpLe : cmpD .LtE S (.int i) (.int j) = some (decide (i ≤ j)) := rfl
theorem cmpGt : cmpD .Gt S (.int i) (.int j) = some (decide (j < i)) := rfl
theorem cmpGe : cmpD .GtE S (.int i) (.int j) = some (decide (j ≤ i)) := rfl
theorem cmpEq : cmpD .Eq S x y = eqD S x y := rfl
theorem cmpNe : cmpD .NotEq S x y = (eqD S x y).map Bool.not := rfl
theorem cmpIs : cmpD .Is S x .non = some (isNon x) := rfl
theorem cmpIsN : cmpD .IsNot S x .non = some (!isNon x) := rfl
theorem cmpIn : cmpD .In S x y = inD S x y := rfl
theorem cmpNotIn : cmpD .NotIn S x y = (inD S x y).map Bool.not := rfl
theorem binAdd : binD .Add S (.int i) (.int j) = some (.int (i + j)) := rfl
theorem binSub : binD .Sub S (.int i) (.int j) = some (.int (i - j)) := rfl
theorem binMul (h : mulOk i j = true) : binD .Mult S (.int i) (.int j) = some (.int (i * j)) := by
  show guardO _ _ = _
  rw [h]; rfl
theorem binDiv (h : 0 < j) (g : j < 1073741824) : binD .FloorDiv S (.int i) (.int j) = some (.int (i / j)) := by
  show guardO _ _ = _
  rw [decide_eq_true h, decide_eq_true g]; rfl
theorem binMod (h : 0 < j) : binD .Mod S (.int i) (.int j) = some (.int (i % j)) := by
  show guardO _ _ = _
  rw [decide_eq_true h]; rfl
theorem binTup (h : ds.length + es.length ≤ 16777216) : binD .Add S (.tup ds) (.tup es) = some (.tup (ds ++ es)) := by
  show guardO _ _ = _
  rw [decide_eq_true h]; rfl
theorem binLst (h : ds.length + es.length ≤ 16777216) : binD .Add S (.lst ds) (.lst es) = some (.lst (ds ++ es)) := by
  show guardO _ _ = _
  rw [decide_eq_true h]; rfl
theorem lenTup : biD .len S [.tup ds] = some (.int ds.length) := rfl
theorem lenLst : biD .len S [.lst ds] = some (.int ds.length) := rfl
theorem lenLoc {a : Addr} (h : S a = some (.lst ds)) : biD .len S [.loc a] = some (.int ds.length) := by
  show (match S a with | some (.lst ds) => some ds | _ => none).map _ = _
  rw [h]; rfl
theorem biMax : biD .max2 S [.int i, .int j] = some (.int (max i j)) := by
  show some (D.int (if j > i then j else i)) = _
  congr 2
  split <;> omega
theorem biMin : biD .min2 S [.int i, .int j] = some (.int (min i j)) := by
  show some (D.int (if j < i then j else i)) = _
  congr 2
  split <;> omega
theorem biInt : biD .int1 S [.int i] = some (.int i) := rfl
theorem biIntB {b : Bool} : biD .int1 S [.bl b] = some (.int (if b then 1 else 0)) := rfl
theorem tupTup : biD .tuple1 S [.tup ds] = some (.tup ds) := rfl
theorem tupLst : biD .tuple1 S [.lst ds] = some (.tup ds) := rfl
theorem lstTup : biD .list1 S [.tup ds] = some (.lst ds) := rfl
theorem lstLst : biD .list1 S [.lst ds] = some (.lst ds) := rfl
theorem tupLoc {a : Addr} (h : S a = some (.lst ds)) : biD .tuple1 S [.loc a] = some (.tup ds) := by
  show (match S a with | some (.lst ds) => some ds | _ => none).map _ = _
  rw [h]; rfl
theorem lstLoc {a : Addr} (h : S a = some (.lst ds)) : biD .list1 S [.loc a] = some (.lst ds) := by
  show (match S a with | some (.lst ds) => some ds | _ => none).map _ = _
  rw [h]; rfl
theorem all1_map {α : Type} {p : α → Bool} {xs : List α} : biD .all1 S [.lst (xs.map fun x => D.bl (p x))] = some (.bl (xs.all p)) := by
  show ((lstOf S _).bind boolsOf).map _ = _
  rw [lstOf, Option.bind_some, bools_map]
  simp [List.all_map]
theorem ixT : ixD S (.tup ds) (.int i) = atI ds i := rfl
theorem ixL : ixD S (.lst ds) (.int i) = atI ds i := rfl
theorem ixLoc {a : Addr} (h : S a = some (.lst ds)) : ixD S (.loc a) (.int i) = atI ds i := by
  unfold ixD
  rw [seqOf, h]
theorem slTup {lo hi : Option Int} : slD S (.tup ds) lo hi = some (.tup (cutD ds lo hi)) := rfl
theorem slLst {lo hi : Option Int} : slD S (.lst ds) lo hi = some (.lst (cutD ds lo hi)) := rfl
theorem atI0 {d : D} {ds : List D} : atI (d :: ds) 0 = some d := by rw [show (0 : Int) = ((0 : Nat) : Int) from rfl, at_nat (by simp)]; rfl
theorem atI1 {d e : D} {ds : List D} : atI (d :: e :: ds) 1 = some e := by rw [show (1 : Int) = ((1 : Nat) : Int) from rfl, at_nat (by simp)]; rfl
theorem atI2 {d e f : D} {ds : List D} : atI (d :: e :: f :: ds) 2 = some f := by rw [show (2 : Int) = ((2 : Nat) : Int) from rfl, at_nat (by simp)]; rfl
theorem atI3 {d e f g : D} {ds : List D} : atI (d :: e :: f :: g :: ds) 3 = some g := by rw [show (3 : Int) = ((3 : Nat) : Int) from rfl, at_nat (by simp)]; rfl
theorem atI4 {d e f g h : D} {ds : List D} : atI (d :: e :: f :: g :: h :: ds) 4 = some h := by rw [show (4 : Int) = ((4 : Nat) : Int) from rfl, at_nat (by simp)]; rfl
theorem atI5 {d e f g h k : D} {ds : List D} : atI (d :: e :: f :: g :: h :: k :: ds) 5 = some k := by rw [show (5 : Int) = ((5 : Nat) : Int) from rfl, at_nat (by simp)]; rfl
theorem isiTup : isiD S (.tup ds) "tuple" = some true := isi_tuple (d := .tup ds) rfl
theorem isiLst : isiD S (.lst ds) "list" = some true := isi_list (d := .lst ds) rfl
theorem meApp {a : Addr} {Q : QD} (h : S a = some (.lst ds)) (hl : ds.length < 16777216) (hq : Q .non (S.set a (.lst (ds ++ [x])))) : meD .append (.loc a) x S Q := by
  show (match S a with
    | some (.lst ds) => ds.length < 16777216 ∧ Q .non (S.set a (.lst (ds ++ [x])))
    | _ => False)
  rw [h]
  exact ⟨hl, hq⟩
theorem meAppS {a : Addr} {Q : QD} (hl : ds.length < 16777216) : meD .append (.loc a) x (S.set a (.lst ds)) Q = Q .non (S.set a (.lst (ds ++ [x]))) := by
  show (match (S.set a (.lst ds)) a with
    | some (.lst ds') => ds'.length < 16777216 ∧ Q .non ((S.set a (.lst ds)).set a (.lst (ds' ++ [x])))
    | _ => False) = _
  rw [Sto.set_same]
  show (ds.length < 16777216 ∧ Q .non ((S.set a (.lst ds)).set a (.lst (ds ++ [x])))) = _
  rw [Sto.set_set]
  simp [hl]
theorem lstOfS {a : Addr} : lstOf (S.set a (.lst ds)) (.loc a) = some ds := by rw [lstOf, Sto.set_same]
theorem seqOfS {a : Addr} : seqOf (S.set a (.lst ds)) (.loc a) = some ds := by rw [seqOf, Sto.set_same]
theorem lenS {a : Addr} : biD .len (S.set a (.lst ds)) [.loc a] = some (.int ds.length) := lenLoc Sto.set_same
theorem tupS {a : Addr} : biD .tuple1 (S.set a (.lst ds)) [.loc a] = some (.tup ds) := tupLoc Sto.set_same
theorem lstS {a : Addr} : biD .list1 (S.set a (.lst ds)) [.loc a] = some (.lst ds) := lstLoc Sto.set_same
theorem ixS {a : Addr} : ixD (S.set a (.lst ds)) (.loc a) (.int i) = atI ds i := ixLoc Sto.set_same
theorem lstOfLoc {a : Addr} (h : S a = some (.lst ds)) : lstOf S (.loc a) = some ds := by rw [lstOf, h]
theorem seqOfLoc {a : Addr} (h : S a = some (.lst ds)) : seqOf S (.loc a) = some ds := by rw [seqOf, h]
theorem seqTup : seqOf S (.tup ds) = some ds := rfl
theorem seqLst : seqOf S (.lst ds) = some ds := rfl
theorem lstOfLst : lstOf S (.lst ds) = some ds := rfl
theorem gOfTup {T : Sto} : gOf S (.tup ds) T = True := rfl
theorem gOfLst {T : Sto} : gOf S (.lst ds) T = True := rfl
theorem inInts {n : Int} {ns : List Int} : inD S (.int n) (.tup (ns.map D.int)) = some (decide (n ∈ ns)) := by
  show (match toPD (.int n), toPDs (ns.map D.int) with
    | some p, some qs => guardO (flatD (.int n) && (ns.map D.int).all flatD) (qs.any fun z => PyData.eqv z p)
    | _, _ => none) = _
  rw [toPDs_int]
  have h : (ns.map D.int).all flatD = true := by simp [flatD]
  have g : ((ns.map PyData.int).any fun z => PyData.eqv z (.int n)) = decide (n ∈ ns) := by
    induction ns with
    | nil => simp
    | cons m ns ih =>
      rw [List.map_cons, List.any_cons, ih (by simp [flatD]), PyData.eqv]
      by_cases a : n = m
      · subst a; simp
      · have b : ¬ m = n := fun e => a e.symm
        simp [a, b]
  simp -implicitDefEqProofs only [toPD, h, g, flatD, Bool.and_self, guardO, if_true]
theorem eqInt {a b : Int} : eqD S (.int a) (.int b) = some (decide (a = b)) := eqD_int
theorem eqStr {a b : Str} : eqD S (.str a) (.str b) = some (decide (a = b)) := eqD_str
theorem eqNil {xs : List Int} : eqD S (.tup (xs.map D.int)) (.tup []) = some (decide (xs = [])) := eqD_ints_nil
/-- a body in two parts -/
def takeS : Nat → Stms → Stms
  | n + 1, .cons a b => .cons a (takeS n b)
  | _, _ => .nil
def dropS : Nat → Stms → Stms
  | n + 1, .cons _ b => dropS n b
  | _, b => b
theorem w_split {Γ : Nat → Fn} {Cs : Nat → D} {F : XP} : ∀ (n : Nat) (b : Stms) (k : KD) (s : SD) (S : Sto), wSs Γ Cs F (takeS n b) { k with nx := wSs Γ Cs F (dropS n b) k } s S → wSs Γ Cs F b k s S
  | 0, b, k, s, S, h => h
  | n + 1, .nil, k, s, S, h => h
  | n + 1, .cons a b, k, s, S, h => by
    have e : wSs Γ Cs F (takeS n b) { k with nx := wSs Γ Cs F (dropS n b) k } = wSs Γ Cs F b k := by
      funext s S
      exact propext ⟨w_split n b k s S, w_join n b k s S⟩
    rw [wSs, ← e]
    exact h
where
  w_join {Γ : Nat → Fn} {Cs : Nat → D} {F : XP} : ∀ (n : Nat) (b : Stms) (k : KD) (s : SD) (S : Sto), wSs Γ Cs F b k s S → wSs Γ Cs F (takeS n b) { k with nx := wSs Γ Cs F (dropS n b) k } s S
  | 0, b, k, s, S, h => h
  | n + 1, .nil, k, s, S, h => h
  | n + 1, .cons a b, k, s, S, h => by
    have e : wSs Γ Cs F (takeS n b) { k with nx := wSs Γ Cs F (dropS n b) k } = wSs Γ Cs F b k := by
      funext s S
      exact propext ⟨w_split n b k s S, w_join n b k s S⟩
    rw [wSs, ← e] at h
    exact h
theorem at_last {xs : List D} : atI (xs ++ [x]) (-1) = some x := by
  unfold atI ixN
  rw [if_neg (by decide), if_pos (by simp; omega)]
  show (xs ++ [x])[(-1 + ((xs ++ [x]).length : Int)).toNat]? = _
  rw [show (-1 + ((xs ++ [x]).length : Int)).toNat = xs.length by simp; omega]
  simp
theorem tgNm {n : Nat} {s : SD} {k : SD → Prop} : wTg (.nm n) x s k = k (setS s n x) := rfl
theorem tgTup {ts : Tgs} {s : SD} {k : SD → Prop} : wTg (.tup ts) (.tup ds) s k = wTgs ts ds s k := rfl
theorem tgNil {s : SD} {k : SD → Prop} : wTgs .nil [] s k = k s := rfl
theorem tgCons {t : Tg} {ts : Tgs} {s : SD} {k : SD → Prop} : wTgs (.cons t ts) (x :: ds) s k = wTg t x s fun s' => wTgs ts ds s' k := rfl
theorem wip0 {s : SD} : wipeS s [] = s := rfl
theorem wipC {s : SD} {v : Nat} {vs : List Nat} : wipeS s (v :: vs) = (wipeS s vs).set v none := rfl
end DL
/-! a table, def by def -/
namespace DL
open PySem PySem.Spec PyProof.Rows L2
section
variable {Γ : Nat → Fn} {Cs : Nat → D} {P : Program} {w : World} {K : PySem.W.Frag} {mg : Str → Option Value} {base : Heap}
variable {B : List Str} {C Fs : List (Str × Nat)} {Dt : List (Str × Nat × List Nat)} {Kt : List (Str × Nat × List Str)}
theorem TabOk.empty (hB : ∀ x ∈ B, mg x = none) (hC : ∀ x c, (x, c) ∈ C → ∃ v u, mg x = some u ∧ RelV v u ∧ ∀ H, RV w K H v (Cs c)) : TabOk ⟨B, C, [], [], []⟩ Γ Cs P w K mg base where
  blt := hB
  cst := hC
  fn _ _ h := nomatch h
  fd _ _ _ h := nomatch h
  fk _ _ _ h := nomatch h
theorem TabOk.addF {x : Str} {i : Nat} {f : Addr} {fd : FuncData} {ps : List Str} (T : TabOk ⟨B, C, Fs, Dt, Kt⟩ Γ Cs P w K mg base) (A : FnAt P w K mg base (Γ i) x f fd ps) (b : Binds K fd ps []) : TabOk ⟨B, C, (x, i) :: Fs, Dt, Kt⟩ Γ Cs P w K mg base :=
  ⟨T.blt, T.cst, fun y j h => by
    rcases List.mem_cons.mp h with h | h
    · cases h; exact ⟨f, fd, ps, A, b⟩
    · exact T.fn y j h, T.fd, T.fk⟩
theorem TabOk.addD {x : Str} {i : Nat} {cs : List Nat} {f : Addr} {fd : FuncData} {ps : List Str} {dvs : List V} {ds : List Value} (T : TabOk ⟨B, C, Fs, Dt, Kt⟩ Γ Cs P w K mg base) (A : FnAt P w K mg base (Γ i) x f fd ps) (b1 : Vals dvs ds) (b2 : ∀ H, RVs w K H dvs (cs.map Cs)) (b : Binds K fd ps ds) :
    TabOk ⟨B, C, Fs, (x, i, cs) :: Dt, Kt⟩ Γ Cs P w K mg base :=
  ⟨T.blt, T.cst, T.fn, fun y j ks h => by
    rcases List.mem_cons.mp h with h | h
    · cases h; exact ⟨f, fd, ps, A, dvs, ds, b1, b2, b⟩
    · exact T.fd y j ks h, T.fk⟩
theorem TabOk.addK {x : Str} {i : Nat} {ks : List Str} {f : Addr} {fd : FuncData} {ps : List Str} {n : Nat} (T : TabOk ⟨B, C, Fs, Dt, Kt⟩ Γ Cs P w K mg base) (A : FnAt P w K mg base (Γ i) x f fd ps) (hn : n + ks.length = (Γ i).ar) (b : KBn K fd ps n ks (fun us ws => us ++ ws) (fun vs zs => vs ++ zs)) :
    TabOk ⟨B, C, Fs, Dt, (x, i, ks) :: Kt⟩ Γ Cs P w K mg base :=
  ⟨T.blt, T.cst, T.fn, T.fd, fun y j us h => by
    rcases List.mem_cons.mp h with h | h
    · cases h; exact ⟨f, fd, ps, n, A, hn, b⟩
    · exact T.fk y j us h⟩
/-- a constant tuple of texts -/
theorem rvs_strs {H : Hp} : ∀ {xs : List Str}, RVs w K H (xs.map V.str) (xs.map D.str)
  | [] => .nil
  | x :: xs => .cons (.str x) rvs_strs
theorem rv_ints {H : Hp} : ∀ {xs : List Int}, RVs w K H (xs.map V.int) (xs.map D.int)
  | [] => .nil
  | x :: xs => .cons (.int x) rv_ints
end
/-- the law's own def at its call, by its data promise -/
theorem law_sp {w : World} {K : PySem.W.Frag} {mg : Str → Option Value} {fn : Fn} {a : Addr} {ns : List Int} {H : Hp} (hl : 1 = fn.ar) (ho : Only H) (ha : SqL K H a (ns.map V.int)) (hs : ns.length ≤ sizeLine)
    (h : ∀ (S : Sto), fn.sp [.lst (ns.map D.int)] S (fun d _ => d = .bl true) XP0) : lsp w K mg fn [.ref a] H (fun v _ => v = .bl true) fun _ _ _ => False := by
  refine ⟨[.lst (ns.map D.int)], fun _ => none, fun d _ => d = .bl true, XP0, hl, .cons (.lst (by rw [List.length_map]; exact hs) (.only ho ha) rv_ints) .nil, fun a o h => (nomatch h), h _, ?_, fun cls d H' z => liftX0 z⟩
  rintro d S' rfl v H' _ r _
  cases r; rfl
end DL
/-! a head that also looks at constant tuples -/
namespace DL
open PySem PySem.Spec PyProof.Rows L2
abbrev TupF : Type := List (Str × List He.Dv)
def tupsB (tf : TupF) (K : PySem.W.Frag) : Bool := tf.all fun p => He.tupB K p.1 p.2
def obsT (fa : List He.Fa) (fn : List He.DefD) (tf : TupF) (K : PySem.W.Frag) : He.AlD × Bool := (He.obsD fa fn K, tupsB tf K)
def obsTG (n : Nat) (fa : List He.Fa) (fn : List He.DefD) (tf : TupF) (g : Addr → Option Obj) : He.AlD × Bool := obsT fa fn tf (He.frG g (He.asD g n))
def hookT (n : Nat) (fa : List He.Fa) (fn : List He.DefD) (tf : TupF) : PySem.W.Hook where
  α := He.AlD × Bool
  obs s := obsTG n fa fn tf s.heap.get?
  val _ := (He.valD fn, true)
  says _ h := ∃ K : PySem.W.Frag, K.In h ∧ He.SaysD fa fn K ∧ tupsB tf K = true
  of _ _ e := ⟨_, He.frG_in, congrArg Prod.fst e, congrArg Prod.snd e⟩
  keeps _ _ _ := fun ⟨K, hK, c⟩ k => ⟨K, PySem.W.Frag.In.keeps hK k, c⟩
theorem obsTG_eq {n : Nat} {fa : List He.Fa} {fn : List He.DefD} {tf : TupF} {g : Addr → Option Obj} {s : Shared} (h : ∀ a, g a = s.heap.get? a) : obsTG n fa fn tf g = (hookT n fa fn tf).obs s := by
  rw [show g = s.heap.get? from funext h]
  rfl
theorem tupsB_at {tf : TupF} {K : PySem.W.Frag} (h : tupsB tf K = true) {x : Str} {vs : List He.Dv} (m : (x, vs) ∈ tf) : He.tupB K x vs = true := List.all_eq_true.mp h (x, vs) m
section
variable {K : PySem.W.Frag} {mg : Str → Option Value} {w : World}
/-- a constant that is an int; one that is a tuple of texts -/
theorem cst_int {x : Str} {i : Int} (h : ∃ t, mg x = some (.int i t)) : ∃ v u, mg x = some u ∧ RelV v u ∧ ∀ H, RV w K H v (.int i) := by
  obtain ⟨t, h⟩ := h
  exact ⟨.int i, _, h, ⟨t, rfl⟩, fun H => .int i⟩
theorem cst_strs {x : Str} {xs : List Str} (h : mg x = some (.ref (He.ga K x))) (ht : He.tupB K x (xs.map He.Dv.str) = true) (hl : xs.length ≤ 16777216) : ∃ v u, mg x = some u ∧ RelV v u ∧ ∀ H, RV w K H v (.tup (xs.map D.str)) := by
  refine ⟨.ref _, _, h, rfl, fun H => .tup ?_ (He.tupB_ok ht H) ?_⟩
  · rw [List.length_map, List.length_map]; exact line_le hl
  · rw [List.map_map]; exact rvs_strs
end
/-- the ends of a call by an exception, of any program and world -/
def CXw : CXT := fun outer H s E u s' => ∃ P w, L2.CX P w outer H s E u s'
theorem CXw.none {H : Hp} {s : Shared} {e : Value} {s' : Shared} (h : CXw [] H s (fun _ _ _ => False) e s') : False := by
  obtain ⟨_, _, a, B, H', cls, d, _, _, _, _, _, _, _, z⟩ := h
  exact z
theorem FnOk.cxw {P : Program} {w : World} {K : PySem.W.Frag} {mg : Str → Option Value} {base : Heap} {k : Nat} {f : Addr} {fd : FuncData} {ps : List Str} {sp : Sp} (F : FnOk P w K mg base (L2.CX P w) k f fd ps sp) : FnOk P w K mg base CXw k f fd ps sp :=
  ⟨F.len, fun A outer s H args us vs Q E hr he hb hv hs => codeAny_mono (F.run A outer s H args us vs Q E hr he hb hv hs) fun r s' h => by
    cases r with
    | ok v => cases v <;> exact h
    | error e => exact ⟨P, w, h⟩⟩
end DL
/-! what the defs of setups.py, beats.py and ahead.py (the part that fills by told deeds) compute, and their promises -/
namespace FC
open PySem DL

/-- a tuple of ints -/
def iv (ns : List Int) : D := .tup (ns.map D.int)
/-- a setup -/
structure Su where
  seats : List Int
  sizes : List Int
  rg : Int
  rs : Int
  cg : Int
  cs : Int
def Su.d (u : Su) : D := .tup [iv u.seats, iv u.sizes, .tup [.int u.rg, .int u.rs], .tup [.int u.cg, .int u.cs]]
structure Su.Ok (u : Su) : Prop where
  n1 : 1 ≤ u.seats.length
  n2 : u.seats.length ≤ 2
  se : ∀ x ∈ u.seats, 1 ≤ x ∧ x ≤ 5
  m1 : 1 ≤ u.sizes.length
  m2 : u.sizes.length ≤ 3
  si : ∀ x ∈ u.sizes, 1 ≤ x ∧ x ≤ 5
  up : u.sizes.Pairwise (· < ·)
  rg1 : 1 ≤ u.rg
  rg2 : u.rg ≤ 3
  rs1 : 0 ≤ u.rs
  rs2 : u.rs ≤ 4
  cg1 : 0 ≤ u.cg
  cg2 : u.cg ≤ 2
  cs1 : 0 ≤ u.cs
  cs2 : u.cs ≤ 2
abbrev Com := List Int × Int
def comD (c : Com) : D := .tup [iv c.1, .int c.2]
structure ComOk (u : Su) (c : Com) : Prop where
  len : (c.1.length : Int) ≤ u.cg
  mem : ∀ x ∈ c.1, x ∈ u.sizes
  s0 : 0 ≤ c.2
  s1 : c.2 ≤ u.cs

def isInt (d : D) : Bool := match d with
  | .int _ => true
  | _ => false
def isNum (d : D) (lo hi : Int) : Bool := match d with
  | .int i => decide (lo ≤ i) && decide (i ≤ hi)
  | _ => false
def isCount (d : D) : Bool := match d with
  | .int i => decide (0 ≤ i)
  | _ => false
def optI : Option Int → D
  | none => .non
  | some i => .int i
def rowD (r : List Com) : D := .lst (r.map comD)

abbrev kG : Str := "group"
abbrev kS : Str := "single"
abbrev kP : Str := "part"
def canDo (w : Str) (f l s : Int) : Bool :=
  if w = kG then decide (0 < f) && decide (f ≤ l) else if w = kS then decide (0 < s) && decide (0 < l) else if w = kP then decide (l < f) && decide (0 < l) else true
def front (line : List Int) : Int := line.headD 0
def mayDo (w : Str) (line : List Int) (l s p : Int) : Bool := canDo w (front line) l s && (!decide (w = kP) || decide (0 < p))
abbrev Deed := Str × Int
def deedD (d : Deed) : D := .tup [.str d.1, .int d.2]
/-- the deed of a chair, the line, the singles, the seats left -/
def seat (w : Str) (line : List Int) (s l : Int) : Deed × List Int × Int × Int :=
  if w = kG then ((kG, front line), line.tail, s, l - front line) else if w = kS then ((kS, 1), line, s - 1, l - 1) else ((kP, l), (front line - l) :: line.tail, s, 0)
def letIn (u : Su) (line : List Int) (s : Int) (c : Com) : List Int × Int × Int × Int :=
  let here := (line ++ c.1).take (max u.rg line.length).toNat
  let w := min (max u.rs s) (s + c.2)
  (here, w, line.length + c.1.length - here.length, s + c.2 - w)
def isDone (d : D) (e : Deed) : Bool := match d with
  | .tup [.str w, .int n] => decide (1 ≤ n) && decide (n ≤ 5) && (decide (w = e.1) && decide (n = e.2))
  | _ => false
/-- line, singles, seats left, parts -/
abbrev In := List Int × Int × Int × Int
def afterDeedL (d : D) (line : List Int) (s l p : Int) : List Str → Option In
  | [] => none
  | w :: ws => if mayDo w line l s p && isDone d (seat w line s l).1 then
      some ((seat w line s l).2.1, (seat w line s l).2.2.1, (seat w line s l).2.2.2, p - (if w = kP then 1 else 0)) else afterDeedL d line s l p ws
def afterDeed (d : D) (x : In) : Option In := afterDeedL d x.1 x.2.1 x.2.2.1 x.2.2.2 [kG, kS, kP]
def afterAll : List D → In → Option In
  | [], x => some x
  | d :: ds, x => (match afterDeed d x with
    | some y => afterAll ds y
    | none => none)
abbrev Posn := List Int × Int × Int
def posD (p : Posn) : D := .tup [iv p.1, .int p.2.1, .int p.2.2]
def seatAt (u : Su) (t : Nat) : Int := u.seats.getD (t % u.seats.length) 0
def lostOf (line : List Int) (s l : Int) : Int := if line = [] ∧ s = 0 then 0 else l
def startIn (u : Su) (t : Nat) (p : Posn) (c : Com) : In := ((letIn u p.1 p.2.1 c).1, (letIn u p.1 p.2.1 c).2.1, seatAt u t, p.2.2)
def afterDeeds (u : Su) (t : Nat) (p : Posn) (c : Com) (d : D) : Option (Int × Posn) := match d with
  | .tup ds => (match afterAll ds (startIn u t p c) with
    | some x => some (lostOf x.1 x.2.1 x.2.2.1, x.1, x.2.1, x.2.2.2)
    | none => none)
  | _ => none
def loseAll (u : Su) : Nat → List Com → List D → Int × Posn → Option (Int × Posn)
  | _, [], _, x => some x
  | _, _ :: _, [], _ => none
  | t, c :: cs, d :: ds, x => (match afterDeeds u t x.2 c d with
    | some y => loseAll u (t + 1) cs ds (x.1 + y.1, y.2)
    | none => none)
def deedsLose (u : Su) (row : List Com) (d : D) (p : Int) : Option Int := match d with
  | .lst ds => if ds.length = row.length then (loseAll u 0 row ds (0, [], 0, p)).map (·.1) else none
  | _ => none

/-! ### promises -/
def sp_is_integer : DSp := fun ds S R _ => ∃ d, ds = [d] ∧ val d = true ∧ R (.bl (isInt d)) S
def sp_is_number : DSp := fun ds S R _ => ∃ d lo hi, ds = [d, .int lo, .int hi] ∧ val d = true ∧ R (.bl (isNum d lo hi)) S
def sp_are_numbers : DSp := fun ds S R _ => ∃ ns l m lo hi, ds = [iv ns, .int l, .int m, .int lo, .int hi] ∧ l ≤ ns.length ∧ (ns.length : Int) ≤ m ∧ (∀ n ∈ ns, lo ≤ n ∧ n ≤ hi) ∧ R (.bl true) S
def sp_are_most : DSp := fun ds S R _ => ∃ a b gl gh sh, ds = [.tup [.int a, .int b], .int gl, .int gh, .int sh] ∧ 0 ≤ a ∧ a ≤ 9 ∧ 0 ≤ b ∧ b ≤ 9 ∧ gl ≤ a ∧ a ≤ gh ∧ b ≤ sh ∧ R (.bl true) S
def sp_is_setup : DSp := fun ds S R _ => ∃ u, ds = [Su.d u] ∧ u.Ok ∧ R (.bl true) S
def sp_check_setup : DSp := fun ds S R _ => ∃ u, ds = [Su.d u] ∧ u.Ok ∧ R .non S
def sp_is_size : DSp := fun ds S R _ => ∃ u n, ds = [Su.d u, .int n] ∧ u.Ok ∧ n ∈ u.sizes ∧ R (.bl true) S
def sp_is_comers : DSp := fun ds S R _ => ∃ u c, ds = [Su.d u, comD c] ∧ u.Ok ∧ ComOk u c ∧ R (.bl true) S
def sp_row_fault : DSp := fun ds S R _ => ∃ u r m, ds = [Su.d u, rowD r, .int (m : Nat)] ∧ u.Ok ∧ (∀ c ∈ r, ComOk u c) ∧ r.length ≤ m ∧ R .non S
def sp_check_row : DSp := fun ds S R _ => ∃ u r m, ds = [Su.d u, rowD r, .int (m : Nat)] ∧ u.Ok ∧ (∀ c ∈ r, ComOk u c) ∧ r.length ≤ m ∧ R .non S
def sp_is_count : DSp := fun ds S R _ => ∃ d, ds = [d] ∧ val d = true ∧ R (.bl (isCount d)) S
def sp_check_count : DSp := fun ds S R _ => ∃ p, ds = [.int p] ∧ 0 ≤ p ∧ R .non S
def sp_check_ahead : DSp := fun ds S R _ => ∃ u r, ds = [Su.d u, rowD r] ∧ u.Ok ∧ (∀ c ∈ r, ComOk u c) ∧ r.length ≤ 16 ∧ R .non S
def sp_can_be_done : DSp := fun ds S R _ => ∃ w f l s, ds = [.str w, .int f, .int l, .int s] ∧ R (.bl (canDo w f l s)) S
def sp_front_of : DSp := fun ds S R _ => ∃ line, ds = [iv line] ∧ R (.int (front line)) S
def sp_may_be_done : DSp := fun ds S R _ => ∃ w line l s p, ds = [.str w, iv line, .int l, .int s, .int p] ∧ R (.bl (mayDo w line l s p)) S
def seatD (x : Deed × List Int × Int × Int) : D := .tup [deedD x.1, iv x.2.1, .int x.2.2.1, .int x.2.2.2]
def sp_seated : DSp := fun ds S R _ => ∃ w line s l, ds = [.str w, iv line, .int s, .int l] ∧ (w ≠ kS → line ≠ []) ∧ line.length ≤ 1000 ∧ R (seatD (seat w line s l)) S
def letD (x : List Int × Int × Int × Int) : D := .tup [iv x.1, .int x.2.1, .tup [.int x.2.2.1, .int x.2.2.2]]
def sp_let_in : DSp := fun ds S R _ => ∃ u line s c, ds = [Su.d u, iv line, .int s, comD c] ∧ line.length ≤ 1000 ∧ c.1.length ≤ 1000 ∧ R (letD (letIn u line s c)) S
def sp_is_done : DSp := fun ds S R _ => ∃ d e, ds = [d, deedD e] ∧ ok0 20 d = true ∧ (e.1 = kG ∨ e.1 = kS ∨ e.1 = kP) ∧ R (.bl (isDone d e)) S
def inD' : Option In → D
  | none => .non
  | some x => .tup [iv x.1, .int x.2.1, .int x.2.2.1, .int x.2.2.2]
def sp_after_deed : DSp := fun ds S R _ => ∃ d line s l p, ds = [d, iv line, .int s, .int l, .int p] ∧ ok0 20 d = true ∧ line.length ≤ 1000 ∧ R (inD' (afterDeed d (line, s, l, p))) S
def stepD : Option (Int × Posn) → D
  | none => .non
  | some x => .tup [.int x.1, posD x.2]
def sp_after_deeds : DSp := fun ds S R _ => ∃ u t p c d, ds = [Su.d u, .int (t : Nat), posD p, comD c, d] ∧ t < u.seats.length ∧ ok0 21 d = true ∧ p.1.length ≤ 1000 ∧ c.1.length ≤ 1000 ∧ u.rg ≤ 1000 ∧ R (stepD (afterDeeds u t p c d)) S
def sp_deeds_lose : DSp := fun ds S R _ => ∃ (u : Su) (r : List Com) (d : D) (p : Int), ds = [Su.d u, rowD r, d, .int p] ∧ ok0 22 d = true ∧ u.Ok ∧ (∀ c ∈ r, ComOk u c) ∧ r.length ≤ 16 ∧ 0 ≤ p ∧ R (optI (deedsLose u r d p)) S

/-! ### the law's own defs -/
def waysOf (line : List Int) (l s p : Int) : List Deed :=
  (if 0 < front line ∧ front line ≤ l then [(kG, front line)] else []) ++ ((if 0 < s ∧ 0 < l then [(kS, 1)] else []) ++ (if l < front line ∧ 0 < l ∧ 0 < p then [(kP, l)] else []))
/-- line, left, singles, cuts -/
def doneOf (e : Deed) (line : List Int) (l s p : Int) : List Int × Int × Int × Int :=
  if e.1 = kG then (line.tail, l - e.2, s, p) else if e.1 = kS then (line, l - 1, s - 1, p) else ((front line - l) :: line.tail, 0, s, p - 1)
def fourD (x : List Int × Int × Int × Int) : D := .tup [iv x.1, .int x.2.1, .int x.2.2.1, .int x.2.2.2]
/-- a step of a chair's trail: what was done, and where that leads -/
def trailD (pre : List Deed) (x : In) : D := .tup [.lst (pre.map deedD), iv x.1, .int x.2.2.1, .int x.2.1, .int x.2.2.2]
structure Chair (x : In) (chair : List Deed) (y : In) (trail : List (List Deed × In)) : Prop where
  run : afterAll (chair.map deedD) x = some y
  tr : ∀ t ∈ trail, afterAll (t.1.map deedD) x = some t.2
  ts : ∀ t ∈ trail, t.1.length ≤ 6 ∧ t.2.1.length ≤ 100
  wd : ∀ e ∈ chair, e.1 = kG ∨ e.1 = kS ∨ e.1 = kP
  tw : ∀ t ∈ trail, ∀ e ∈ t.1, e.1 = kG ∨ e.1 = kS ∨ e.1 = kP
  len : chair.length ≤ 6
  tl : trail.length ≤ 7
  s0 : 0 ≤ y.2.1
  s1 : y.2.1 ≤ x.2.1
  l1 : y.1.length ≤ x.1.length
  p0 : 0 ≤ y.2.2.2
  p1 : y.2.2.2 ≤ x.2.2.2
def nnD (xs : List Int) : D := .lst (xs.map D.int)
def sp_law_cell_at : DSp := fun ds S R _ => ∃ xs k, ds = [nnD xs, .int (k : Nat)] ∧ ∀ i, R (.int i) S
def sp_law_draws : DSp := fun ds S R _ => ∃ c n, ds = [.int c, .int (n : Nat)] ∧ n ≤ 1000 ∧ ∀ xs : List Int, xs.length = n → (∀ x ∈ xs, 0 ≤ x) → R (nnD xs) S
def sp_law_setup : DSp := fun ds S R _ => ∃ xs : List Int, ds = [nnD xs] ∧ xs.length = 12 ∧ (∀ x ∈ xs, 0 ≤ x) ∧ ∀ u : Su, u.Ok → R u.d S
def sp_law_comers : DSp := fun ds S R _ => ∃ (u : Su) (xs : List Int), ds = [u.d, nnD xs] ∧ u.Ok ∧ xs.length = 10 ∧ (∀ x ∈ xs, 0 ≤ x) ∧ ∀ c, ComOk u c → R (comD c) S
def sp_law_whole : DSp := fun ds S R _ => ∃ d, ds = [d] ∧ val d = true ∧ R (.bl (isInt d)) S
def sp_law_arrive : DSp := fun ds S R _ => ∃ u line s c, ds = [Su.d u, iv line, .int s, comD c] ∧ line.length ≤ 1000 ∧ c.1.length ≤ 1000 ∧ R (.tup [iv ((line ++ c.1).take (max u.rg line.length).toNat), .int (min u.rs (s + c.2))]) S
def sp_law_ways : DSp := fun ds S R _ => ∃ line l s p, ds = [iv line, .int l, .int s, .int p] ∧ line.length ≤ 1000 ∧ R (.lst ((waysOf line l s p).map deedD)) S
def sp_law_done : DSp := fun ds S R _ => ∃ e line l s p, ds = [deedD e, iv line, .int l, .int s, .int p] ∧ line.length ≤ 1000 ∧ (e.1 ≠ kG → e.1 ≠ kS → line ≠ []) ∧ R (fourD (doneOf e line l s p)) S
def sp_law_lost : DSp := fun ds S R _ => ∃ line l s, ds = [iv line, .int l, .int s] ∧ R (.int (lostOf line s l)) S
def sp_law_wrong : DSp := fun ds S R _ => ∃ line l s p, ds = [iv line, .int l, .int s, .int p] ∧ line.length ≤ 1000 ∧ ∀ xs : List D, xs ≠ [] → (∀ x ∈ xs, ok0 19 x = true ∧ afterDeed x (line, s, l, p) = none) → R (.lst xs) S
def sp_law_chair : DSp := fun ds S R _ => ∃ (xs : List Int) (line : List Int) (l s p : Int), ds = [nnD xs, iv line, .int l, .int s, .int p] ∧ xs.length ≤ 6 ∧ (∀ x ∈ xs, 0 ≤ x) ∧ line.length ≤ 100 ∧ 0 ≤ s ∧ 0 ≤ p ∧ l ≤ 5 ∧
  ∀ chair y trail, Chair (line, s, l, p) chair y trail → R (.tup [.tup (chair.map deedD), .tup [iv y.1, .int y.2.2.1, .int y.2.1, .int y.2.2.2], .lst (trail.map fun t => trailD t.1 t.2)]) S
/-- a step of the whole trail -/
abbrev Tr := Nat × List Deed × In
def trD (t : Tr) : D := .tup [.int (t.1 : Nat), .lst (t.2.1.map deedD), iv t.2.2.1, .int t.2.2.2.2.1, .int t.2.2.2.1, .int t.2.2.2.2.2]
/-- what a spoilt list of deeds may be -/
inductive Spoilt (ds : List D) (tr : List Tr) : D → Prop where
  | way (t : Tr) (x : D) (h : t ∈ tr) (ho : ok0 19 x = true) (hn : afterDeed x t.2.2 = none) : Spoilt ds tr (.lst (ds.take t.1 ++ [.tup (t.2.1.map deedD ++ [x])] ++ ds.drop (t.1 + 1)))
  | len (es : List D) (h : es.length ≠ ds.length) (hi : ∀ x ∈ es, x = .tup [] ∨ x ∈ ds) (hl : es.length ≤ 40) : Spoilt ds tr (.lst es)
  | tup : Spoilt ds tr (.tup ds)
  | non : Spoilt ds tr .non
  | lst (i : Nat) (d : D) (h : i < ds.length) (hs : d ∈ ds) (es : List D) (he : d = .tup es) : Spoilt ds tr (.lst (ds.take i ++ [.lst es] ++ ds.drop (i + 1)))
def sp_law_spoilt : DSp := fun ds S R _ => ∃ (cs : List (List Deed)) (tr : List Tr) (pick : List Int), ds = [.lst (cs.map fun c => .tup (c.map deedD)), .lst (tr.map trD), nnD pick] ∧ pick.length = 9 ∧ (∀ x ∈ pick, 0 ≤ x) ∧ cs.length ≤ 16 ∧
  (∀ t ∈ tr, t.1 < cs.length ∧ t.2.2.1.length ≤ 100 ∧ t.2.1.length ≤ 6 ∧ ∀ e ∈ t.2.1, e.1 = kG ∨ e.1 = kS ∨ e.1 = kP) ∧ (∀ c ∈ cs, ∀ e ∈ c, e.1 = kG ∨ e.1 = kS ∨ e.1 = kP) ∧ ∀ d, Spoilt (cs.map fun c => .tup (c.map deedD)) tr d → R d S
def sp_law : DSp := fun ds S R _ => ∃ xs : List Int, ds = [nnD xs] ∧ ∀ S', R (.bl true) S'
end FC
/-! bodies: printed by gen.py -/
namespace FC
open PySem PySem.Spec PyProof.Rows L2 DL
/-- 0: is_integer; level 1; slots 0=thing -/
def b_is_integer : Stms := (.cons (.ret (.and (.isi (.va 0) "int") (.one (.not (.isi (.va 0) "bool"))))) .nil)
/-- 1: is_number; level 2; slots 0=thing 1=low 2=high -/
def b_is_number : Stms := (.cons (.ret (.and (.call 0 (.cons (.va 0) .nil)) (.one (.chn .LtE .LtE (.va 1) (.va 0) (.va 2))))) .nil)
/-- 2: are_numbers; level 3; slots 0=thing 1=least 2=most 3=low 4=high 5=number -/
def b_are_numbers : Stms := (.cons (.ifs (.or (.not (.isi (.va 0) "tuple")) (.one (.not (.chn .LtE .LtE (.va 1) (.bi .len (.cons (.va 0) .nil)) (.va 2))))) (.cons (.ret (.co (.bool false))) .nil) .nil) (.cons (.ret (.bi .all1 (.cons (.lc [5] (.seq (.va 0)) (.nm 5) .nil (.call 1 (.cons (.va 5) (.cons (.va 3) (.cons (.va 4) .nil))))) .nil))) .nil))
/-- 3: are_most; level 4; slots 0=thing 1=groups_low 2=groups_high 3=singles_high -/
def b_are_most : Stms := (.cons (.ifs (.not (.call 2 (.cons (.va 0) (.cons (.co (.int 2)) (.cons (.co (.int 2)) (.cons (.co (.int 0)) (.cons (.co (.int 9)) .nil))))))) (.cons (.ret (.co (.bool false))) .nil) .nil) (.cons (.ret (.and (.chn .LtE .LtE (.va 1) (.ix (.va 0) (.co (.int 0))) (.va 2)) (.one (.cmp .LtE (.ix (.va 0) (.co (.int 1))) (.va 3))))) .nil))
/-- 4: is_setup; level 5; slots 0=thing 1=seats 2=sizes 3=rooms 4=comers 5=one 6=other -/
def b_is_setup : Stms := (.cons (.ifs (.or (.not (.isi (.va 0) "tuple")) (.one (.cmp .NotEq (.bi .len (.cons (.va 0) .nil)) (.co (.int 4))))) (.cons (.ret (.co (.bool false))) .nil) .nil) (.cons (.asg (.tup (.cons (.nm 1) (.cons (.nm 2) (.cons (.nm 3) (.cons (.nm 4) .nil))))) (.va 0)) (.cons (.ifs (.or (.not (.call 2 (.cons (.va 1) (.cons (.co (.int 1)) (.cons (.co (.int 2)) (.cons (.co (.int 1)) (.cons (.co (.int 5)) .nil))))))) (.one (.not (.call 2 (.cons (.va 2) (.cons (.co (.int 1)) (.cons (.co (.int 3)) (.cons (.co (.int 1)) (.cons (.co (.int 5)) .nil))))))))) (.cons (.ret (.co (.bool false))) .nil) .nil) (.cons (.ifs (.not (.bi .all1 (.cons (.lc [5, 6] (.zip (.va 2) (.sl (.va 2) (.so (.co (.int 1))) .no)) (.tup (.cons (.nm 5) (.cons (.nm 6) .nil))) .nil (.cmp .Lt (.va 5) (.va 6))) .nil))) (.cons (.ret (.co (.bool false))) .nil) .nil) (.cons (.ret (.and (.call 3 (.cons (.va 3) (.cons (.co (.int 1)) (.cons (.co (.int 3)) (.cons (.co (.int 4)) .nil))))) (.one (.call 3 (.cons (.va 4) (.cons (.co (.int 0)) (.cons (.co (.int 2)) (.cons (.co (.int 2)) .nil)))))))) .nil)))))
/-- 8: check_setup; level 6; slots 0=setup -/
def b_check_setup : Stms := (.cons (.ifs (.not (.call 4 (.cons (.va 0) .nil))) (.cons .never .nil) .nil) .nil)
/-- 5: is_size; level 3; slots 0=setup 1=thing -/
def b_is_size : Stms := (.cons (.ret (.and (.call 1 (.cons (.va 1) (.cons (.co (.int 1)) (.cons (.co (.int 5)) .nil)))) (.one (.cmp .In (.va 1) (.ix (.va 0) (.co (.int 1))))))) .nil)
/-- 6: is_comers; level 4; slots 0=setup 1=thing 2=groups 3=singles 4=size -/
def b_is_comers : Stms := (.cons (.ifs (.or (.not (.isi (.va 1) "tuple")) (.one (.cmp .NotEq (.bi .len (.cons (.va 1) .nil)) (.co (.int 2))))) (.cons (.ret (.co (.bool false))) .nil) .nil) (.cons (.asg (.tup (.cons (.nm 2) (.cons (.nm 3) .nil))) (.va 1)) (.cons (.ifs (.or (.not (.isi (.va 2) "tuple")) (.one (.cmp .Gt (.bi .len (.cons (.va 2) .nil)) (.ix (.ix (.va 0) (.co (.int 3))) (.co (.int 0)))))) (.cons (.ret (.co (.bool false))) .nil) .nil) (.cons (.ret (.and (.bi .all1 (.cons (.lc [4] (.seq (.va 2)) (.nm 4) .nil (.call 5 (.cons (.va 0) (.cons (.va 4) .nil)))) .nil)) (.one (.call 1 (.cons (.va 3) (.cons (.co (.int 0)) (.cons (.ix (.ix (.va 0) (.co (.int 3))) (.co (.int 1))) .nil))))))) .nil))))
/-- 7: row_fault; level 5; slots 0=setup 1=row 2=most 3=place 4=comers -/
def b_row_fault : Stms := (.cons (.ifs (.not (.isi (.va 1) "list")) (.cons (.ret (.neg (.co (.int 1)))) .nil) .nil) (.cons (.for_ (.tup (.cons (.nm 3) (.cons (.nm 4) .nil))) (.enum (.sl (.va 1) .no (.so (.va 2)))) (.cons (.ifs (.not (.call 6 (.cons (.va 0) (.cons (.va 4) .nil)))) (.cons (.ret (.va 3)) .nil) .nil) .nil)) (.cons (.ifs (.cmp .Gt (.bi .len (.cons (.va 1) .nil)) (.va 2)) (.cons (.ret (.va 2)) .nil) .nil) (.cons (.ret (.co .none)) .nil))))
/-- 9: check_row; level 6; slots 0=setup 1=row 2=most 3=place -/
def b_check_row : Stms := (.cons (.asg (.nm 3) (.call 7 (.cons (.va 0) (.cons (.va 1) (.cons (.va 2) .nil))))) (.cons (.ifs (.cmp .IsNot (.va 3) (.co .none)) (.cons .never .nil) .nil) .nil))
/-- 11: can_be_done; level 1; slots 0=deed 1=front 2=left 3=singles -/
def b_can_be_done : Stms := (.cons (.ifs (.cmp .Eq (.va 0) (.co (.str "group"))) (.cons (.ret (.chn .Lt .LtE (.co (.int 0)) (.va 1) (.va 2))) .nil) .nil) (.cons (.ifs (.cmp .Eq (.va 0) (.co (.str "single"))) (.cons (.ret (.and (.cmp .Gt (.va 3) (.co (.int 0))) (.one (.cmp .Gt (.va 2) (.co (.int 0)))))) .nil) .nil) (.cons (.ifs (.cmp .Eq (.va 0) (.co (.str "part"))) (.cons (.ret (.chn .Gt .Gt (.va 1) (.va 2) (.co (.int 0)))) .nil) .nil) (.cons (.ret (.co (.bool true))) .nil))))
/-- 12: front_of; level 1; slots 0=line -/
def b_front_of : Stms := (.cons (.ifs (.cmp .Eq (.va 0) (.tup .nil)) (.cons (.ret (.co (.int 0))) .nil) .nil) (.cons (.ret (.ix (.va 0) (.co (.int 0)))) .nil))
/-- 14: seated; level 1; slots 0=deed 1=line 2=singles 3=left -/
def b_seated : Stms := (.cons (.ifs (.cmp .Eq (.va 0) (.co (.str "group"))) (.cons (.ret (.tup (.cons (.tup (.cons (.co (.str "group")) (.cons (.ix (.va 1) (.co (.int 0))) .nil))) (.cons (.sl (.va 1) (.so (.co (.int 1))) .no) (.cons (.va 2) (.cons (.bin .Sub (.va 3) (.ix (.va 1) (.co (.int 0)))) .nil)))))) .nil) .nil) (.cons (.ifs (.cmp .Eq (.va 0) (.co (.str "single"))) (.cons (.ret (.tup (.cons (.tup (.cons (.co (.str "single")) (.cons (.co (.int 1)) .nil))) (.cons (.va 1) (.cons (.bin .Sub (.va 2) (.co (.int 1))) (.cons (.bin .Sub (.va 3) (.co (.int 1))) .nil)))))) .nil) .nil) (.cons (.ret (.tup (.cons (.tup (.cons (.co (.str "part")) (.cons (.va 3) .nil))) (.cons (.bin .Add (.tup (.cons (.bin .Sub (.ix (.va 1) (.co (.int 0))) (.va 3)) .nil)) (.sl (.va 1) (.so (.co (.int 1))) .no)) (.cons (.va 2) (.cons (.co (.int 0)) .nil)))))) .nil)))
/-- 16: let_in; level 1; slots 0=setup 1=line 2=singles 3=comers 4=groups 5=more 6=here 7=waiting -/
def b_let_in : Stms := (.cons (.asg (.tup (.cons (.nm 4) (.cons (.nm 5) .nil))) (.va 3)) (.cons (.asg (.nm 6) (.sl (.bin .Add (.va 1) (.va 4)) .no (.so (.bi .max2 (.cons (.ix (.ix (.va 0) (.co (.int 2))) (.co (.int 0))) (.cons (.bi .len (.cons (.va 1) .nil)) .nil)))))) (.cons (.asg (.nm 7) (.bi .min2 (.cons (.bi .max2 (.cons (.ix (.ix (.va 0) (.co (.int 2))) (.co (.int 1))) (.cons (.va 2) .nil))) (.cons (.bin .Add (.va 2) (.va 5)) .nil)))) (.cons (.ret (.tup (.cons (.va 6) (.cons (.va 7) (.cons (.tup (.cons (.bin .Sub (.bin .Add (.bi .len (.cons (.va 1) .nil)) (.bi .len (.cons (.va 4) .nil))) (.bi .len (.cons (.va 6) .nil))) (.cons (.bin .Sub (.bin .Add (.va 2) (.va 5)) (.va 7)) .nil))) .nil))))) .nil))))
/-- 10: is_count; level 1; slots 0=thing -/
def b_is_count : Stms := (.cons (.ret (.and (.isi (.va 0) "int") (.and (.not (.isi (.va 0) "bool")) (.one (.cmp .GtE (.va 0) (.co (.int 0))))))) .nil)
/-- 18: check_ahead; level 7; slots 0=setup 1=row -/
def b_check_ahead : Stms := (.cons (.exp (.call 8 (.cons (.va 0) .nil))) (.cons (.exp (.call 9 (.cons (.va 0) (.cons (.va 1) (.cons (.gl 0) .nil))))) .nil))
/-- 19: check_count; level 2; slots 0=thing -/
def b_check_count : Stms := (.cons (.ifs (.not (.call 10 (.cons (.va 0) .nil))) (.cons .never .nil) .nil) .nil)
/-- 13: may_be_done; level 2; slots 0=deed 1=line 2=left 3=singles 4=parts -/
def b_may_be_done : Stms := (.cons (.ret (.and (.call 11 (.cons (.va 0) (.cons (.call 12 (.cons (.va 1) .nil)) (.cons (.va 2) (.cons (.va 3) .nil))))) (.one (.or (.cmp .NotEq (.va 0) (.co (.str "part"))) (.one (.cmp .Gt (.va 4) (.co (.int 0)))))))) .nil)
/-- 15: is_done; level 3; slots 0=thing 1=deed -/
def b_is_done : Stms := (.cons (.ifs (.or (.not (.isi (.va 0) "tuple")) (.or (.cmp .NotEq (.bi .len (.cons (.va 0) .nil)) (.co (.int 2))) (.one (.not (.isi (.ix (.va 0) (.co (.int 0))) "str"))))) (.cons (.ret (.co (.bool false))) .nil) .nil) (.cons (.ret (.and (.call 1 (.cons (.ix (.va 0) (.co (.int 1))) (.cons (.co (.int 1)) (.cons (.co (.int 5)) .nil)))) (.one (.cmp .Eq (.va 0) (.va 1))))) .nil))
/-- 17: after_deed; level 4; slots 0=thing 1=line 2=singles 3=left 4=parts 5=deed 6=done 7=rest 8=fewer 9=free -/
def b_after_deed : Stms := (.cons (.for_ (.nm 5) (.seq (.gl 1)) (.cons (.ifs (.call 13 (.cons (.va 5) (.cons (.va 1) (.cons (.va 3) (.cons (.va 2) (.cons (.va 4) .nil)))))) (.cons (.asg (.tup (.cons (.nm 6) (.cons (.nm 7) (.cons (.nm 8) (.cons (.nm 9) .nil))))) (.call 14 (.cons (.va 5) (.cons (.va 1) (.cons (.va 2) (.cons (.va 3) .nil)))))) (.cons (.ifs (.call 15 (.cons (.va 0) (.cons (.va 6) .nil))) (.cons (.ret (.tup (.cons (.va 7) (.cons (.va 8) (.cons (.va 9) (.cons (.bin .Sub (.va 4) (.bi .int1 (.cons (.cmp .Eq (.va 5) (.co (.str "part"))) .nil))) .nil)))))) .nil) .nil) .nil)) .nil) .nil)) (.cons (.ret (.co .none)) .nil))
/-- 20: after_deeds; level 5; slots 0=setup 1=turn 2=position 3=comers 4=deeds 5=line 6=singles 7=found 8=thing 9=left 10=parts -/
def b_after_deeds : Stms := (.cons (.ifs (.not (.isi (.va 4) "tuple")) (.cons (.ret (.co .none)) .nil) .nil) (.cons (.asg (.tup (.cons (.nm 5) (.cons (.nm 6) .nil))) (.sl (.call 16 (.cons (.va 0) (.cons (.ix (.va 2) (.co (.int 0))) (.cons (.ix (.va 2) (.co (.int 1))) (.cons (.va 3) .nil))))) .no (.so (.co (.int 2))))) (.cons (.asg (.nm 7) (.tup (.cons (.va 5) (.cons (.va 6) (.cons (.ix (.ix (.va 0) (.co (.int 0))) (.va 1)) (.cons (.ix (.va 2) (.co (.int 2))) .nil)))))) (.cons (.for_ (.nm 8) (.seq (.va 4)) (.cons (.asg (.nm 7) (.calls 17 (.va 8) (.va 7))) (.cons (.ifs (.cmp .Is (.va 7) (.co .none)) (.cons (.ret (.co .none)) .nil) .nil) .nil))) (.cons (.asg (.tup (.cons (.nm 5) (.cons (.nm 6) (.cons (.nm 9) (.cons (.nm 10) .nil))))) (.va 7)) (.cons (.ifs (.and (.cmp .Eq (.va 5) (.tup .nil)) (.one (.cmp .Eq (.va 6) (.co (.int 0))))) (.cons (.asg (.nm 9) (.co (.int 0))) .nil) .nil) (.cons (.ret (.tup (.cons (.va 9) (.cons (.tup (.cons (.va 5) (.cons (.va 6) (.cons (.va 10) .nil)))) .nil)))) .nil)))))))
/-- 32: deeds_lose; level 8; slots 0=setup 1=row 2=deeds 3=parts 4=total 5=position 6=at 7=comers 8=step -/
def b_deeds_lose : Stms := (.cons (.exp (.call 18 (.cons (.va 0) (.cons (.va 1) .nil)))) (.cons (.exp (.call 19 (.cons (.va 3) .nil))) (.cons (.ifs (.or (.not (.isi (.va 2) "list")) (.one (.cmp .NotEq (.bi .len (.cons (.va 2) .nil)) (.bi .len (.cons (.va 1) .nil))))) (.cons (.ret (.co .none)) .nil) .nil) (.cons (.asg (.nm 4) (.co (.int 0))) (.cons (.asg (.nm 5) (.tup (.cons (.tup .nil) (.cons (.co (.int 0)) (.cons (.va 3) .nil))))) (.cons (.for_ (.tup (.cons (.nm 6) (.cons (.nm 7) .nil))) (.enum (.va 1)) (.cons (.asg (.nm 8) (.call 20 (.cons (.va 0) (.cons (.bin .Mod (.va 6) (.bi .len (.cons (.ix (.va 0) (.co (.int 0))) .nil))) (.cons (.va 5) (.cons (.va 7) (.cons (.ix (.va 2) (.va 6)) .nil))))))) (.cons (.ifs (.cmp .Is (.va 8) (.co .none)) (.cons (.ret (.co .none)) .nil) .nil) (.cons (.aug 4 .Add (.ix (.va 8) (.co (.int 0)))) (.cons (.asg (.nm 5) (.ix (.va 8) (.co (.int 1)))) .nil))))) (.cons (.ret (.va 4)) .nil)))))))
/-- 26: _law_cell_at; level 1; slots 0=script 1=k -/
def b_law_cell_at : Stms := (.cons (.ifs (.cmp .Lt (.va 1) (.bi .len (.cons (.va 0) .nil))) (.cons (.ret (.ix (.va 0) (.va 1))) .nil) .nil) (.cons (.ret (.co (.int 0))) .nil))
/-- 25: _law_draws; level 1; slots 0=cell 1=many 2=draws 3=rest 4=seed 5=k 6=stir 7=draw -/
def b_law_draws : Stms := (.cons (.asg (.nm 2) (.lstm .nil)) (.cons (.asg (.nm 3) (.bin .Sub (.bi .int1 (.cons (.va 0) .nil)) (.bin .Pow (.co (.int 10)) (.co (.int 18))))) (.cons (.asg (.nm 4) (.bin .Mod (.bi .int1 (.cons (.va 0) .nil)) (.bin .Add (.bin .Pow (.co (.int 10)) (.co (.int 40))) (.co (.int 121))))) (.cons (.for_ (.nm 5) (.rng1 (.va 1)) (.cons (.asg (.nm 6) (.bin .Mod (.bi .int1 (.cons (.bin .Add (.bin .Add (.bin .Mult (.va 4) (.co (.int 48271))) (.bin .Mult (.bin .Mult (.bin .Add (.va 5) (.co (.int 5))) (.bin .Add (.va 5) (.co (.int 5)))) (.co (.int 69621)))) (.co (.int 1))) .nil)) (.co (.int 2305843009213693951)))) (.cons (.asg (.nm 6) (.bin .Mod (.bi .int1 (.cons (.bin .Add (.bin .Mult (.va 6) (.va 6)) (.bin .Mult (.co (.int 7)) (.va 5))) .nil)) (.co (.int 2305843009213693921)))) (.cons (.asg (.nm 7) (.bin .Mod (.bi .int1 (.cons (.bin .FloorDiv (.va 6) (.co (.int 64))) .nil)) (.co (.int 2520)))) (.cons (.ifs (.cmp .Gt (.va 3) (.co (.int 0))) (.cons (.asg (.nm 7) (.bin .Mod (.bi .int1 (.cons (.va 3) .nil)) (.co (.int 2520)))) (.cons (.asg (.nm 3) (.bin .FloorDiv (.va 3) (.co (.int 2520)))) .nil)) .nil) (.cons (.exp (.meth .append (.va 2) (.va 7))) .nil)))))) (.cons (.ret (.frz (.va 2))) .nil)))))
/-- 24: _law_setup; level 1; slots 0=draws 1=seats 2=draw 3=sizes 4=rooms -/
def b_law_setup : Stms := (.cons (.asg (.nm 1) (.bi .tuple1 (.cons (.lc [2] (.seq (.sl (.va 0) (.so (.co (.int 1))) (.so (.bin .Add (.co (.int 2)) (.bin .Mod (.bi .int1 (.cons (.ix (.va 0) (.co (.int 0))) .nil)) (.co (.int 2))))))) (.nm 2) .nil (.bin .Add (.co (.int 1)) (.bin .Mod (.bi .int1 (.cons (.va 2) .nil)) (.co (.int 5))))) .nil))) (.cons (.asg (.nm 3) (.lstm (.cons (.co (.int 1)) (.cons (.co (.int 2)) (.cons (.co (.int 3)) (.cons (.co (.int 4)) (.cons (.co (.int 5)) .nil))))))) (.cons (.for_ (.nm 2) (.seq (.sl (.va 0) (.so (.co (.int 3))) (.so (.bin .Sub (.co (.int 7)) (.bin .Mod (.bi .int1 (.cons (.bin .FloorDiv (.bi .int1 (.cons (.ix (.va 0) (.co (.int 0))) .nil)) (.co (.int 2))) .nil)) (.co (.int 3))))))) (.cons (.exp (.meth .popAt (.va 3) (.bin .Mod (.bi .int1 (.cons (.va 2) .nil)) (.bi .len (.cons (.va 3) .nil))))) .nil)) (.cons (.asg (.nm 4) (.tup (.cons (.bin .Add (.co (.int 1)) (.bin .Mod (.bi .int1 (.cons (.ix (.va 0) (.co (.int 8))) .nil)) (.co (.int 3)))) (.cons (.bin .Mod (.bi .int1 (.cons (.ix (.va 0) (.co (.int 9))) .nil)) (.co (.int 5))) .nil)))) (.cons (.ret (.tup (.cons (.va 1) (.cons (.bi .tuple1 (.cons (.frz (.va 3)) .nil)) (.cons (.va 4) (.cons (.tup (.cons (.bin .Mod (.bi .int1 (.cons (.ix (.va 0) (.co (.int 10))) .nil)) (.co (.int 3))) (.cons (.bin .Mod (.bi .int1 (.cons (.ix (.va 0) (.co (.int 11))) .nil)) (.co (.int 3))) .nil))) .nil)))))) .nil)))))
/-- 27: _law_comers; level 1; slots 0=setup 1=draws 2=many 3=sizes 4=draw -/
def b_law_comers : Stms := (.cons (.asg (.nm 2) (.bin .Mod (.bi .int1 (.cons (.ix (.va 1) (.co (.int 0))) .nil)) (.bin .Add (.ix (.ix (.va 0) (.co (.int 3))) (.co (.int 0))) (.co (.int 1))))) (.cons (.asg (.nm 3) (.bi .tuple1 (.cons (.lc [4] (.seq (.sl (.va 1) (.so (.co (.int 1))) (.so (.bin .Add (.co (.int 1)) (.va 2))))) (.nm 4) .nil (.ix (.ix (.va 0) (.co (.int 1))) (.bin .Mod (.bi .int1 (.cons (.va 4) .nil)) (.bi .len (.cons (.ix (.va 0) (.co (.int 1))) .nil))))) .nil))) (.cons (.ret (.tup (.cons (.va 3) (.cons (.bin .Mod (.bi .int1 (.cons (.ix (.va 1) (.co (.int 3))) .nil)) (.bin .Add (.ix (.ix (.va 0) (.co (.int 3))) (.co (.int 1))) (.co (.int 1)))) .nil)))) .nil)))
/-- 33: _law_whole; level 1; slots 0=found -/
def b_law_whole : Stms := (.cons (.ret (.and (.isi (.va 0) "int") (.one (.not (.isi (.va 0) "bool"))))) .nil)
/-- 28: _law_arrive; level 1; slots 0=setup 1=line 2=singles 3=comers 4=size -/
def b_law_arrive : Stms := (.cons (.for_ (.nm 4) (.seq (.ix (.va 3) (.co (.int 0)))) (.cons (.ifs (.cmp .Lt (.bi .len (.cons (.va 1) .nil)) (.ix (.ix (.va 0) (.co (.int 2))) (.co (.int 0)))) (.cons (.asg (.nm 1) (.bin .Add (.va 1) (.tup (.cons (.va 4) .nil)))) .nil) .nil) .nil)) (.cons (.ret (.tup (.cons (.va 1) (.cons (.bi .min2 (.cons (.ix (.ix (.va 0) (.co (.int 2))) (.co (.int 1))) (.cons (.bin .Add (.va 2) (.ix (.va 3) (.co (.int 1)))) .nil))) .nil)))) .nil))
/-- 21: _law_ways; level 1; slots 0=line 1=left 2=singles 3=cuts 4=front 5=ways -/
def b_law_ways : Stms := (.cons (.asg (.nm 4) (.ix (.bin .Add (.va 0) (.tup (.cons (.co (.int 0)) .nil))) (.co (.int 0)))) (.cons (.asg (.nm 5) (.lstm .nil)) (.cons (.ifs (.and (.cmp .Lt (.co (.int 0)) (.va 4)) (.one (.cmp .LtE (.va 4) (.va 1)))) (.cons (.exp (.meth .append (.va 5) (.tup (.cons (.co (.str "group")) (.cons (.va 4) .nil))))) .nil) .nil) (.cons (.ifs (.and (.cmp .Gt (.va 2) (.co (.int 0))) (.one (.cmp .Gt (.va 1) (.co (.int 0))))) (.cons (.exp (.meth .append (.va 5) (.tup (.cons (.co (.str "single")) (.cons (.co (.int 1)) .nil))))) .nil) .nil) (.cons (.ifs (.and (.cmp .Gt (.va 4) (.va 1)) (.and (.cmp .Gt (.va 1) (.co (.int 0))) (.one (.cmp .Gt (.va 3) (.co (.int 0)))))) (.cons (.exp (.meth .append (.va 5) (.tup (.cons (.co (.str "part")) (.cons (.va 1) .nil))))) .nil) .nil) (.cons (.ret (.frz (.va 5))) .nil))))))
/-- 22: _law_done; level 1; slots 0=deed 1=line 2=left 3=singles 4=cuts -/
def b_law_done : Stms := (.cons (.ifs (.cmp .Eq (.ix (.va 0) (.co (.int 0))) (.co (.str "group"))) (.cons (.ret (.tup (.cons (.sl (.va 1) (.so (.co (.int 1))) .no) (.cons (.bin .Sub (.va 2) (.ix (.va 0) (.co (.int 1)))) (.cons (.va 3) (.cons (.va 4) .nil)))))) .nil) .nil) (.cons (.ifs (.cmp .Eq (.ix (.va 0) (.co (.int 0))) (.co (.str "single"))) (.cons (.ret (.tup (.cons (.va 1) (.cons (.bin .Sub (.va 2) (.co (.int 1))) (.cons (.bin .Sub (.va 3) (.co (.int 1))) (.cons (.va 4) .nil)))))) .nil) .nil) (.cons (.ret (.tup (.cons (.bin .Add (.tup (.cons (.bin .Sub (.ix (.va 1) (.co (.int 0))) (.va 2)) .nil)) (.sl (.va 1) (.so (.co (.int 1))) .no)) (.cons (.co (.int 0)) (.cons (.va 3) (.cons (.bin .Sub (.va 4) (.co (.int 1))) .nil)))))) .nil)))
/-- 30: _law_lost; level 1; slots 0=line 1=left 2=singles -/
def b_law_lost : Stms := (.cons (.ifs (.and (.cmp .Eq (.va 0) (.tup .nil)) (.one (.cmp .Eq (.va 2) (.co (.int 0))))) (.cons (.ret (.co (.int 0))) .nil) .nil) (.cons (.ret (.va 1)) .nil))
/-- 23: _law_wrong; level 2; slots 0=line 1=left 2=singles 3=cuts 4=good 5=some 6=n 7=odd 8=deed -/
def b_law_wrong : Stms := (.cons (.asg (.nm 4) (.call 21 (.cons (.va 0) (.cons (.va 1) (.cons (.va 2) (.cons (.va 3) .nil)))))) (.cons (.asg (.nm 5) (.bin .Add (.bin .Add (.lc [6] (.rng2 (.co (.int 1)) (.co (.int 6))) (.nm 6) .nil (.tup (.cons (.co (.str "group")) (.cons (.va 6) .nil)))) (.lc [6] (.rng2 (.co (.int 1)) (.co (.int 6))) (.nm 6) .nil (.tup (.cons (.co (.str "part")) (.cons (.va 6) .nil))))) (.lst (.cons (.tup (.cons (.co (.str "single")) (.cons (.co (.int 1)) .nil))) .nil)))) (.cons (.asg (.nm 7) (.lst (.cons (.tup (.cons (.co (.str "go")) (.cons (.co (.int 0)) .nil))) (.cons (.tup (.cons (.co (.str "single")) (.cons (.co (.int 2)) .nil))) (.cons (.tup (.cons (.co (.str "single")) (.cons (.co (.bool true)) .nil))) (.cons (.lst (.cons (.co (.str "single")) (.cons (.co (.int 1)) .nil))) (.cons (.tup (.cons (.co (.str "single")) .nil)) (.cons (.co (.str "single")) (.cons (.co .none) (.cons (.tup (.cons (.co (.str "single")) (.cons (.co (.int 1)) (.cons (.co (.int 1)) .nil)))) .nil)))))))))) (.cons (.ret (.bin .Add (.bin .Add (.lc [8] (.seq (.va 5)) (.nm 8) (.cons (.cmp .NotIn (.va 8) (.va 4)) .nil) (.va 8)) (.va 7)) (.lst (.cons (.tup (.cons (.co (.str "group")) (.cons (.co (.int 0)) .nil))) (.cons (.tup (.cons (.co (.str "part")) (.cons (.co (.bool true)) .nil))) (.cons (.tup (.cons (.co (.str "group")) (.cons (.co (.bool true)) .nil))) .nil)))))) .nil))))
/-- 29: _law_chair; level 2; slots 0=draws 1=line 2=left 3=singles 4=cuts 5=chair 6=trail 7=draw 8=ways 9=deed -/
def b_law_chair : Stms := (.cons (.asg (.nm 5) (.lstm .nil)) (.cons (.asg (.nm 6) (.lstm .nil)) (.cons (.for_ (.nm 7) (.seq (.va 0)) (.cons (.asg (.nm 8) (.call 21 (.cons (.va 1) (.cons (.va 2) (.cons (.va 3) (.cons (.va 4) .nil)))))) (.cons (.exp (.meth .append (.va 6) (.tup (.cons (.bi .list1 (.cons (.va 5) .nil)) (.cons (.va 1) (.cons (.va 2) (.cons (.va 3) (.cons (.va 4) .nil)))))))) (.cons (.ifs (.or (.cmp .Eq (.va 8) (.lst .nil)) (.one (.cmp .Eq (.bin .Mod (.bi .int1 (.cons (.va 7) .nil)) (.co (.int 8))) (.co (.int 7))))) (.cons .brk .nil) .nil) (.cons (.asg (.nm 9) (.ix (.va 8) (.bin .Mod (.bi .int1 (.cons (.bin .FloorDiv (.bi .int1 (.cons (.va 7) .nil)) (.co (.int 8))) .nil)) (.bi .len (.cons (.va 8) .nil))))) (.cons (.exp (.meth .append (.va 5) (.va 9))) (.cons (.asg (.tup (.cons (.nm 1) (.cons (.nm 2) (.cons (.nm 3) (.cons (.nm 4) .nil))))) (.call 22 (.cons (.va 9) (.cons (.va 1) (.cons (.va 2) (.cons (.va 3) (.cons (.va 4) .nil))))))) .nil))))))) (.cons (.ret (.tup (.cons (.bi .tuple1 (.cons (.frz (.va 5)) .nil)) (.cons (.tup (.cons (.va 1) (.cons (.va 2) (.cons (.va 3) (.cons (.va 4) .nil))))) (.cons (.frz (.va 6)) .nil))))) .nil))))
/-- 31: _law_spoilt; level 3; slots 0=deeds 1=trail 2=pick 3=way 4=place 5=at 6=wrong 7=other -/
def b_law_spoilt : Stms := (.cons (.asg (.nm 3) (.bin .Mod (.bi .int1 (.cons (.ix (.va 2) (.co (.int 3))) .nil)) (.co (.int 5)))) (.cons (.ifs (.and (.cmp .Lt (.va 3) (.co (.int 2))) (.one (.cmp .NotEq (.va 1) (.lst .nil)))) (.cons (.asg (.nm 4) (.ix (.va 1) (.bin .Mod (.bi .int1 (.cons (.ix (.va 2) (.co (.int 4))) .nil)) (.bi .len (.cons (.va 1) .nil))))) (.cons (.asg (.nm 5) (.ix (.va 4) (.co (.int 0)))) (.cons (.asg (.nm 6) (.call 23 (.cons (.ix (.va 4) (.co (.int 2))) (.cons (.ix (.va 4) (.co (.int 3))) (.cons (.ix (.va 4) (.co (.int 4))) (.cons (.ix (.va 4) (.co (.int 5))) .nil)))))) (.cons (.asg (.nm 7) (.bi .tuple1 (.cons (.bin .Add (.ix (.va 4) (.co (.int 1))) (.lst (.cons (.ix (.va 6) (.bin .Mod (.bi .int1 (.cons (.ix (.va 2) (.co (.int 5))) .nil)) (.bi .len (.cons (.va 6) .nil)))) .nil))) .nil))) (.cons (.ret (.bin .Add (.bin .Add (.sl (.va 0) .no (.so (.va 5))) (.lst (.cons (.va 7) .nil))) (.sl (.va 0) (.so (.bin .Add (.va 5) (.co (.int 1)))) .no))) .nil))))) .nil) (.cons (.ifs (.or (.cmp .Eq (.va 3) (.co (.int 2))) (.one (.cmp .Eq (.va 0) (.lst .nil)))) (.cons (.ret (.bin .Add (.va 0) (.lst (.cons (.tup .nil) .nil)))) .nil) .nil) (.cons (.ifs (.cmp .Eq (.va 3) (.co (.int 3))) (.cons (.ret (.ix (.lst (.cons (.sl (.va 0) .no (.so (.neg (.co (.int 1))))) (.cons (.bi .tuple1 (.cons (.va 0) .nil)) (.cons (.co .none) (.cons (.bin .Add (.va 0) (.va 0)) .nil))))) (.bin .Mod (.bi .int1 (.cons (.ix (.va 2) (.co (.int 4))) .nil)) (.co (.int 4))))) .nil) .nil) (.cons (.asg (.nm 5) (.bin .Mod (.bi .int1 (.cons (.ix (.va 2) (.co (.int 4))) .nil)) (.bi .len (.cons (.va 0) .nil)))) (.cons (.ret (.bin .Add (.bin .Add (.sl (.va 0) .no (.so (.va 5))) (.lst (.cons (.bi .list1 (.cons (.ix (.va 0) (.va 5)) .nil)) .nil))) (.sl (.va 0) (.so (.bin .Add (.va 5) (.co (.int 1)))) .no))) .nil))))))
/-- 34: law; level 9; slots 0=script 1=setup 2=pick 3=cuts 4=state 5=row 6=deeds 7=trail 8=lost 9=cell 10=draws 11=line 12=singles 13=left 14=chair 15=after 16=steps 17=step 18=handed 19=due 20=used 21=passed 22=rows 23=found -/
def b_law : Stms := (.cons (.asg (.nm 1) (.call 24 (.cons (.call 25 (.cons (.call 26 (.cons (.va 0) (.cons (.co (.int 0)) .nil))) (.cons (.co (.int 12)) .nil))) .nil))) (.cons (.asg (.nm 2) (.call 25 (.cons (.call 26 (.cons (.va 0) (.cons (.co (.int 1)) .nil))) (.cons (.co (.int 9)) .nil)))) (.cons (.asg (.nm 3) (.ix (.lst (.cons (.co (.int 0)) (.cons (.co (.int 1)) (.cons (.co (.int 2)) (.cons (.co (.int 3)) (.cons (.co (.int 16)) (.cons (.co (.int 0)) (.cons (.bin .Add (.bin .Mult (.ix (.va 2) (.co (.int 1))) (.bin .Pow (.co (.int 2520)) (.co (.int 3)))) (.ix (.va 2) (.co (.int 2)))) .nil)))))))) (.bin .Mod (.bi .int1 (.cons (.ix (.va 2) (.co (.int 0))) .nil)) (.co (.int 7))))) (.cons (.asg (.nm 4) (.tup (.cons (.tup .nil) (.cons (.co (.int 0)) (.cons (.va 3) .nil))))) (.cons (.asg (.nm 5) (.lstm .nil)) (.cons (.asg (.nm 6) (.lstm .nil)) (.cons (.asg (.nm 7) (.lst .nil)) (.cons (.asg (.nm 8) (.co (.int 0))) (.cons (.for_ (.nm 9) (.seq (.sl (.va 0) (.so (.co (.int 2))) (.so (.co (.int 18))))) (.cons (.asg (.nm 10) (.call 25 (.cons (.va 9) (.cons (.co (.int 10)) .nil)))) (.cons (.exp (.meth .append (.va 5) (.call 27 (.cons (.va 1) (.cons (.va 10) .nil))))) (.cons (.asg (.tup (.cons (.nm 11) (.cons (.nm 12) .nil))) (.call 28 (.cons (.va 1) (.cons (.ix (.va 4) (.co (.int 0))) (.cons (.ix (.va 4) (.co (.int 1))) (.cons (.ix (.va 5) (.neg (.co (.int 1)))) .nil)))))) (.cons (.asg (.nm 13) (.ix (.ix (.va 1) (.co (.int 0))) (.bin .Mod (.bi .len (.cons (.va 6) .nil)) (.bi .len (.cons (.ix (.va 1) (.co (.int 0))) .nil))))) (.cons (.asg (.tup (.cons (.nm 14) (.cons (.nm 15) (.cons (.nm 16) .nil)))) (.call 29 (.cons (.sl (.va 10) (.so (.co (.int 4))) .no) (.cons (.va 11) (.cons (.va 13) (.cons (.va 12) (.cons (.ix (.va 4) (.co (.int 2))) .nil))))))) (.cons (.asg (.nm 7) (.bin .Add (.va 7) (.lc [17] (.seq (.va 16)) (.nm 17) .nil (.bin .Add (.tup (.cons (.bi .len (.cons (.va 6) .nil)) .nil)) (.va 17))))) (.cons (.exp (.meth .append (.va 6) (.va 14))) (.cons (.asg (.nm 4) (.tup (.cons (.ix (.va 15) (.co (.int 0))) (.cons (.ix (.va 15) (.co (.int 2))) (.cons (.ix (.va 15) (.co (.int 3))) .nil))))) (.cons (.asg (.nm 8) (.bin .Add (.va 8) (.call 30 (.cons (.ix (.va 15) (.co (.int 0))) (.cons (.ix (.va 15) (.co (.int 1))) (.cons (.ix (.va 15) (.co (.int 2))) .nil)))))) .nil)))))))))) (.cons (.asg (.nm 18) (.bi .list1 (.cons (.va 6) .nil))) (.cons (.asg (.nm 19) (.va 8)) (.cons (.asg (.nm 20) (.bin .Sub (.va 3) (.ix (.va 4) (.co (.int 2))))) (.cons (.ifs (.and (.cmp .Eq (.bin .Mod (.bi .int1 (.cons (.ix (.va 2) (.co (.int 6))) .nil)) (.co (.int 4))) (.co (.int 1))) (.one (.cmp .Gt (.va 20) (.co (.int 0))))) (.cons (.asg (.nm 19) (.co .none)) (.cons (.asg (.nm 3) (.bin .Sub (.va 20) (.co (.int 1)))) .nil)) (.cons (.ifs (.cmp .Gt (.bin .Mod (.bi .int1 (.cons (.ix (.va 2) (.co (.int 6))) .nil)) (.co (.int 4))) (.co (.int 1))) (.cons (.asg (.nm 19) (.co .none)) (.cons (.asg (.nm 18) (.call 31 (.cons (.frz (.va 6)) (.cons (.va 7) (.cons (.va 2) .nil))))) .nil)) .nil) .nil)) (.cons (.asg (.nm 21) (.va 18)) (.cons (.ifs (.isi (.va 18) "list") (.cons (.asg (.nm 21) (.bi .list1 (.cons (.va 18) .nil))) .nil) .nil) (.cons (.asg (.nm 22) (.bi .list1 (.cons (.va 5) .nil))) (.cons (.asg (.nm 23) (.callk 32 (.cons (.va 1) (.cons (.va 22) (.cons (.va 21) .nil))) (.cons (.va 3) .nil))) (.cons (.ifs (.or (.and (.cmp .Eq (.va 3) (.co (.int 0))) (.one (.cmp .NotEq (.calld 32 (.cons (.va 1) (.cons (.va 22) (.cons (.va 21) .nil))) [2]) (.va 23)))) (.or (.cmp .NotEq (.va 22) (.va 5)) (.one (.cmp .NotEq (.va 21) (.va 18))))) (.cons (.ret (.co (.bool false))) .nil) .nil) (.cons (.ifs (.cmp .Is (.va 19) (.co .none)) (.cons (.ret (.cmp .Is (.va 23) (.co .none))) .nil) .nil) (.cons (.ret (.and (.call 33 (.cons (.va 23) .nil)) (.one (.cmp .Eq (.va 23) (.va 19))))) .nil))))))))))))))))))))
def Γ : Nat → Fn
  | 0 => ⟨1, 1, sp_is_integer⟩
  | 1 => ⟨3, 2, sp_is_number⟩
  | 2 => ⟨5, 3, sp_are_numbers⟩
  | 3 => ⟨4, 4, sp_are_most⟩
  | 4 => ⟨1, 5, sp_is_setup⟩
  | 8 => ⟨1, 6, sp_check_setup⟩
  | 5 => ⟨2, 3, sp_is_size⟩
  | 6 => ⟨2, 4, sp_is_comers⟩
  | 7 => ⟨3, 5, sp_row_fault⟩
  | 9 => ⟨3, 6, sp_check_row⟩
  | 11 => ⟨4, 1, sp_can_be_done⟩
  | 12 => ⟨1, 1, sp_front_of⟩
  | 14 => ⟨4, 1, sp_seated⟩
  | 16 => ⟨4, 1, sp_let_in⟩
  | 10 => ⟨1, 1, sp_is_count⟩
  | 18 => ⟨2, 7, sp_check_ahead⟩
  | 19 => ⟨1, 2, sp_check_count⟩
  | 13 => ⟨5, 2, sp_may_be_done⟩
  | 15 => ⟨2, 3, sp_is_done⟩
  | 17 => ⟨5, 4, sp_after_deed⟩
  | 20 => ⟨5, 5, sp_after_deeds⟩
  | 32 => ⟨4, 8, sp_deeds_lose⟩
  | 26 => ⟨2, 1, sp_law_cell_at⟩
  | 25 => ⟨2, 1, sp_law_draws⟩
  | 24 => ⟨1, 1, sp_law_setup⟩
  | 27 => ⟨2, 1, sp_law_comers⟩
  | 33 => ⟨1, 1, sp_law_whole⟩
  | 28 => ⟨4, 1, sp_law_arrive⟩
  | 21 => ⟨4, 1, sp_law_ways⟩
  | 22 => ⟨5, 1, sp_law_done⟩
  | 30 => ⟨3, 1, sp_law_lost⟩
  | 23 => ⟨4, 2, sp_law_wrong⟩
  | 29 => ⟨5, 2, sp_law_chair⟩
  | 31 => ⟨3, 3, sp_law_spoilt⟩
  | 34 => ⟨1, 9, sp_law⟩
  | _ => ⟨0, 0, fun _ _ _ _ => False⟩
def Ct : Nat → D
  | 0 => (.int 16)
  | 1 => (.tup [(.str "group"), (.str "single"), (.str "part")])
  | 2 => (.int 0)
  | 3 => (.int 300)
  | _ => .non
end FC
namespace FC
open PySem PySem.Spec PyProof.Rows DL
abbrev KR (R : QD) : KD := ⟨fun _ S' => R .non S', R, fun _ _ => False, fun _ _ => False⟩
/-- a def keeps its promise, as data -/
abbrev Kept (sp : DSp) (b : Stms) (n : Nat) : Prop := ∀ ds S R E, sp ds S R E → wSs Γ Ct E b (KR R) (startD n ds) S

theorem c_is_integer {d : D} {S : Sto} {R : QD} {E : XP} (hv : val d = true) (h : R (.bl (isInt d)) S) : (Γ 0).sp [d] S R E := ⟨_, rfl, hv, h⟩
theorem p_is_integer : Kept sp_is_integer b_is_integer 1 := by
  rintro ds S R E ⟨d, rfl, hv, h⟩
  show wSs Γ Ct E b_is_integer (KR R) [some d] S
  simp -implicitDefEqProofs only [b_is_integer, wSs, wS, wE, wA, wP, wI, wIfs, tgNm, tgTup, tgNil, tgCons, getS, setS, optW_some, conD, negD, wip0, wipC, List.set_cons_zero, List.set_cons_succ, cmpLt, cmpLe, cmpGt, cmpGe, cmpEq, cmpNe, cmpIs, cmpIsN, cmpIn, cmpNotIn, binAdd, binSub, lenTup, lenLst, biMax, biMin, biInt, biIntB, tupTup, tupLst, lstTup, lstLst, ixT, ixL, slTup, slLst, atI0, atI1, atI2, atI3, atI4, atI5, isiTup, isiLst, seqTup, seqLst, lstOfLst, gOfTup, gOfLst, lstOfS, seqOfS, lenS, tupS, lstS, ixS, Sto.set_same, Sto.set_set, eqInt, eqStr, eqNil, isNon, Option.map_some, List.length_cons, List.length_nil, List.length_map, isi_int hv, isi_bool hv]
  cases d <;> first | exact h | cases hv
theorem c_is_number {d : D} {lo hi : Int} {S : Sto} {R : QD} {E : XP} (hv : val d = true) (h : R (.bl (isNum d lo hi)) S) : (Γ 1).sp [d, .int lo, .int hi] S R E := ⟨_, _, _, rfl, hv, h⟩
theorem p_is_number : Kept sp_is_number b_is_number 3 := by
  rintro ds S R E ⟨d, lo, hi, rfl, hv, h⟩
  show wSs Γ Ct E b_is_number (KR R) [some d, some (.int lo), some (.int hi)] S
  simp -implicitDefEqProofs only [b_is_number, wSs, wS, wE, wA, wP, wI, wIfs, tgNm, tgTup, tgNil, tgCons, getS, setS, optW_some, conD, negD, wip0, wipC, List.set_cons_zero, List.set_cons_succ, cmpLt, cmpLe, cmpGt, cmpGe, cmpEq, cmpNe, cmpIs, cmpIsN, cmpIn, cmpNotIn, binAdd, binSub, lenTup, lenLst, biMax, biMin, biInt, biIntB, tupTup, tupLst, lstTup, lstLst, ixT, ixL, slTup, slLst, atI0, atI1, atI2, atI3, atI4, atI5, isiTup, isiLst, seqTup, seqLst, lstOfLst, gOfTup, gOfLst, lstOfS, seqOfS, lenS, tupS, lstS, ixS, Sto.set_same, Sto.set_set, eqInt, eqStr, eqNil, isNon, Option.map_some, List.length_cons, List.length_nil, List.length_map]
  refine c_is_integer hv ?_
  cases d with
  | int i =>
    simp -implicitDefEqProofs only [isInt, cmpLe, optW_some, if_true, if_false, Bool.false_eq_true, Bool.not_true, Bool.not_false, reduceIte, decide_true, decide_false, Bool.and_self]
    by_cases q : lo ≤ i
    · simpa [q, isNum] using h
    · simpa [q, isNum] using h
  | loc => cases hv
  | dct => cases hv
  | _ => simpa [isInt, isNum] using h
theorem c_are_numbers {ns : List Int} {l m lo hi : Int} {S : Sto} {R : QD} {E : XP} (h1 : l ≤ ns.length) (h2 : (ns.length : Int) ≤ m) (h3 : ∀ n ∈ ns, lo ≤ n ∧ n ≤ hi) (h : R (.bl true) S) : (Γ 2).sp [iv ns, .int l, .int m, .int lo, .int hi] S R E := ⟨_, _, _, _, _, rfl, h1, h2, h3, h⟩
theorem p_are_numbers : Kept sp_are_numbers b_are_numbers 6 := by
  rintro ds S R E ⟨ns, l, m, lo, hi, rfl, h1, h2, h3, h⟩
  show wSs Γ Ct E b_are_numbers (KR R) [some (.tup (ns.map D.int)), some (.int l), some (.int m), some (.int lo), some (.int hi), none] S
  simp -implicitDefEqProofs only [b_are_numbers, wSs, wS, wE, wA, wP, wI, wIfs, tgNm, tgTup, tgNil, tgCons, getS, setS, optW_some, conD, negD, wip0, wipC, List.set_cons_zero, List.set_cons_succ, cmpLt, cmpLe, cmpGt, cmpGe, cmpEq, cmpNe, cmpIs, cmpIsN, cmpIn, cmpNotIn, binAdd, binSub, lenTup, lenLst, biMax, biMin, biInt, biIntB, tupTup, tupLst, lstTup, lstLst, ixT, ixL, slTup, slLst, atI0, atI1, atI2, atI3, atI4, atI5, isiTup, isiLst, seqTup, seqLst, lstOfLst, gOfTup, gOfLst, lstOfS, seqOfS, lenS, tupS, lstS, ixS, Sto.set_same, Sto.set_set, eqInt, eqStr, eqNil, isNon, Option.map_some, List.length_cons, List.length_nil, List.length_map, decide_eq_true h1, decide_eq_true h2, if_true, if_false, Bool.false_eq_true, Bool.not_true, Bool.not_false, reduceIte, decide_true, decide_false, Bool.and_self]
  refine lcW_map (f := fun _ => D.bl true) ?_ trivial ?_
  · intro d hd R' hR
    obtain ⟨n, hn, rfl⟩ := List.mem_map.mp hd
    refine c_is_number rfl ?_
    have := h3 n hn
    simpa [isNum, this.1, this.2] using hR
  · simp -implicitDefEqProofs only [List.nil_append, List.map_map]
    rw [show ((fun _ => D.bl true) ∘ D.int) = (fun (x : Int) => D.bl ((fun _ => true) x)) from rfl]
    simp -implicitDefEqProofs only [all1_map]
    have e : List.all ns (fun _ => true) = true := by simp
    simp -implicitDefEqProofs only [e]
    exact h
theorem c_are_most {a b gl gh sh : Int} {S : Sto} {R : QD} {E : XP} (h1 : 0 ≤ a) (h2 : a ≤ 9) (h3 : 0 ≤ b) (h4 : b ≤ 9) (h5 : gl ≤ a) (h6 : a ≤ gh) (h7 : b ≤ sh) (h : R (.bl true) S) : (Γ 3).sp [.tup [.int a, .int b], .int gl, .int gh, .int sh] S R E := ⟨_, _, _, _, _, rfl, h1, h2, h3, h4, h5, h6, h7, h⟩
theorem p_are_most : Kept sp_are_most b_are_most 4 := by
  rintro ds S R E ⟨a, b, gl, gh, sh, rfl, h1, h2, h3, h4, h5, h6, h7, h⟩
  show wSs Γ Ct E b_are_most (KR R) [some (.tup [.int a, .int b]), some (.int gl), some (.int gh), some (.int sh)] S
  simp -implicitDefEqProofs only [b_are_most, wSs, wS, wE, wA, wP, wI, wIfs, tgNm, tgTup, tgNil, tgCons, getS, setS, optW_some, conD, negD, wip0, wipC, List.set_cons_zero, List.set_cons_succ, cmpLt, cmpLe, cmpGt, cmpGe, cmpEq, cmpNe, cmpIs, cmpIsN, cmpIn, cmpNotIn, binAdd, binSub, lenTup, lenLst, biMax, biMin, biInt, biIntB, tupTup, tupLst, lstTup, lstLst, ixT, ixL, slTup, slLst, atI0, atI1, atI2, atI3, atI4, atI5, isiTup, isiLst, seqTup, seqLst, lstOfLst, gOfTup, gOfLst, lstOfS, seqOfS, lenS, tupS, lstS, ixS, Sto.set_same, Sto.set_set, eqInt, eqStr, eqNil, isNon, Option.map_some, List.length_cons, List.length_nil, List.length_map]
  refine c_are_numbers (ns := [a, b]) (by simp) (by simp) (by simp; omega) ?_
  simp -implicitDefEqProofs only [if_true, if_false, Bool.false_eq_true, Bool.not_true, Bool.not_false, reduceIte, decide_true, decide_false, Bool.and_self, decide_eq_true h5, decide_eq_true h6, decide_eq_true h7]
  exact h
theorem c_is_setup {u : Su} {S : Sto} {R : QD} {E : XP} (hu : u.Ok) (h : R (.bl true) S) : (Γ 4).sp [u.d] S R E := ⟨_, rfl, hu, h⟩
theorem p_is_setup : Kept sp_is_setup b_is_setup 7 := by
  rintro ds S R E ⟨u, rfl, hu, h⟩
  show wSs Γ Ct E b_is_setup (KR R) [some (.tup [iv u.seats, iv u.sizes, .tup [.int u.rg, .int u.rs], .tup [.int u.cg, .int u.cs]]), none, none, none, none, none, none] S
  obtain ⟨n1, n2, se, m1, m2, si, up, rg1, rg2, rs1, rs2, cg1, cg2, cs1, cs2⟩ := hu
  simp -implicitDefEqProofs only [b_is_setup, wSs, wS, wE, wA, wP, wI, wIfs, tgNm, tgTup, tgNil, tgCons, getS, setS, optW_some, conD, negD, wip0, wipC, List.set_cons_zero, List.set_cons_succ, cmpLt, cmpLe, cmpGt, cmpGe, cmpEq, cmpNe, cmpIs, cmpIsN, cmpIn, cmpNotIn, binAdd, binSub, lenTup, lenLst, biMax, biMin, biInt, biIntB, tupTup, tupLst, lstTup, lstLst, ixT, ixL, slTup, slLst, atI0, atI1, atI2, atI3, atI4, atI5, isiTup, isiLst, seqTup, seqLst, lstOfLst, gOfTup, gOfLst, lstOfS, seqOfS, lenS, tupS, lstS, ixS, Sto.set_same, Sto.set_set, eqInt, eqStr, eqNil, isNon, Option.map_some, List.length_cons, List.length_nil, List.length_map, if_true, if_false, Bool.false_eq_true, Bool.not_true, Bool.not_false, reduceIte, decide_true, decide_false, Bool.and_self]
  simp -implicitDefEqProofs only [show (((0 + 1 + 1 + 1 + 1 : Nat) : Int) = 4) from rfl, decide_true, Bool.not_true, if_true, if_false, Bool.false_eq_true, Bool.not_true, Bool.not_false, reduceIte, decide_true, decide_false, Bool.and_self]
  refine c_are_numbers (by omega) (by omega) se ?_
  simp -implicitDefEqProofs only [if_true, if_false, Bool.false_eq_true, Bool.not_true, Bool.not_false, reduceIte, decide_true, decide_false, Bool.and_self]
  refine c_are_numbers (by omega) (by omega) si ?_
  simp -implicitDefEqProofs only [if_true, if_false, Bool.false_eq_true, Bool.not_true, Bool.not_false, reduceIte, decide_true, decide_false, Bool.and_self]
  have hz : ∀ (xs : List Int), xs.Pairwise (· < ·) → zipD (xs.map D.int) (cutD (xs.map D.int) (some 1) none) = (List.zip xs (xs.drop 1)).map (fun p => D.tup [.int p.1, .int p.2]) ∧ ∀ p ∈ List.zip xs (xs.drop 1), p.1 < p.2 := by
    intro xs hx
    rw [show (1 : Int) = ((1 : Nat) : Int) from rfl, cut_from, ← List.map_drop]
    have hz : ∀ (a b : List Int), zipD (a.map D.int) (b.map D.int) = (List.zip a b).map (fun p => D.tup [.int p.1, .int p.2]) := by
      intro a
      induction a with
      | nil => intro b; rfl
      | cons x a ih => intro b; cases b with
        | nil => rfl
        | cons y b => simp -implicitDefEqProofs only [List.map_cons, zipD, List.zip_cons_cons, ih]
    refine ⟨hz _ _, ?_⟩
    cases xs with
    | nil => simp
    | cons x xs =>
      induction xs generalizing x with
      | nil => simp
      | cons y ys ih =>
        rw [List.pairwise_cons] at hx
        have := ih y hx.2
        simp -implicitDefEqProofs only [List.drop_succ_cons, List.drop_zero, List.zip_cons_cons, List.mem_cons] at this ⊢
        rintro p (rfl | hp)
        · exact hx.1 y (List.mem_cons_self ..)
        · exact this p hp
  obtain ⟨hz1, hz2⟩ := hz u.sizes up
  simp -implicitDefEqProofs only [iv, slTup, optW_some]
  rw [hz1]
  refine lcW_map (f := fun _ => D.bl true) ?_ trivial ?_
  · intro d hd R' hR
    obtain ⟨n, hn, rfl⟩ := List.mem_map.mp hd
    simp -implicitDefEqProofs only [wSs, wS, wE, wA, wP, wI, wIfs, tgNm, tgTup, tgNil, tgCons, getS, setS, optW_some, conD, negD, wip0, wipC, List.set_cons_zero, List.set_cons_succ, cmpLt, cmpLe, cmpGt, cmpGe, cmpEq, cmpNe, cmpIs, cmpIsN, cmpIn, cmpNotIn, binAdd, binSub, lenTup, lenLst, biMax, biMin, biInt, biIntB, tupTup, tupLst, lstTup, lstLst, ixT, ixL, slTup, slLst, atI0, atI1, atI2, atI3, atI4, atI5, isiTup, isiLst, seqTup, seqLst, lstOfLst, gOfTup, gOfLst, lstOfS, seqOfS, lenS, tupS, lstS, ixS, Sto.set_same, Sto.set_set, eqInt, eqStr, eqNil, isNon, Option.map_some, List.length_cons, List.length_nil, List.length_map, decide_eq_true (hz2 n hn)]
    exact hR
  · simp -implicitDefEqProofs only [List.nil_append, List.map_map]
    rw [show ((fun _ => D.bl true) ∘ fun (p : Int × Int) => D.tup [.int p.1, .int p.2]) = (fun (x : Int × Int) => D.bl ((fun _ => true) x)) from rfl]
    simp -implicitDefEqProofs only [all1_map]
    have e : List.all (u.sizes.zip (u.sizes.drop 1)) (fun _ => true) = true := by simp
    simp -implicitDefEqProofs only [e, if_true, if_false, Bool.false_eq_true, Bool.not_true, Bool.not_false, reduceIte, decide_true, decide_false, Bool.and_self]
    refine c_are_most (by omega) (by omega) (by omega) (by omega) rg1 rg2 rs2 ?_
    simp -implicitDefEqProofs only [if_true, if_false, Bool.false_eq_true, Bool.not_true, Bool.not_false, reduceIte, decide_true, decide_false, Bool.and_self]
    exact c_are_most (by omega) (by omega) (by omega) (by omega) cg1 cg2 cs2 h
theorem c_check_setup {u : Su} {S : Sto} {R : QD} {E : XP} (hu : u.Ok) (h : R .non S) : (Γ 8).sp [u.d] S R E := ⟨_, rfl, hu, h⟩
theorem p_check_setup : Kept sp_check_setup b_check_setup 1 := by
  rintro ds S R E ⟨u, rfl, hu, h⟩
  show wSs Γ Ct E b_check_setup (KR R) [some u.d] S
  simp -implicitDefEqProofs only [b_check_setup, wSs, wS, wE, wA, wP, wI, wIfs, tgNm, tgTup, tgNil, tgCons, getS, setS, optW_some, conD, negD, wip0, wipC, List.set_cons_zero, List.set_cons_succ, cmpLt, cmpLe, cmpGt, cmpGe, cmpEq, cmpNe, cmpIs, cmpIsN, cmpIn, cmpNotIn, binAdd, binSub, lenTup, lenLst, biMax, biMin, biInt, biIntB, tupTup, tupLst, lstTup, lstLst, ixT, ixL, slTup, slLst, atI0, atI1, atI2, atI3, atI4, atI5, isiTup, isiLst, seqTup, seqLst, lstOfLst, gOfTup, gOfLst, lstOfS, seqOfS, lenS, tupS, lstS, ixS, Sto.set_same, Sto.set_set, eqInt, eqStr, eqNil, isNon, Option.map_some, List.length_cons, List.length_nil, List.length_map]
  refine c_is_setup hu ?_
  simp -implicitDefEqProofs only [if_true, if_false, Bool.false_eq_true, Bool.not_true, Bool.not_false, reduceIte, decide_true, decide_false, Bool.and_self]
  exact h

theorem c_is_size {u : Su} {n : Int} {S : Sto} {R : QD} {E : XP} (hu : u.Ok) (hn : n ∈ u.sizes) (h : R (.bl true) S) : (Γ 5).sp [u.d, .int n] S R E := ⟨_, _, rfl, hu, hn, h⟩
theorem p_is_size : Kept sp_is_size b_is_size 2 := by
  rintro ds S R E ⟨u, n, rfl, hu, hn, h⟩
  show wSs Γ Ct E b_is_size (KR R) [some (.tup [iv u.seats, iv u.sizes, .tup [.int u.rg, .int u.rs], .tup [.int u.cg, .int u.cs]]), some (.int n)] S
  simp -implicitDefEqProofs only [b_is_size, wSs, wS, wE, wA, wP, wI, wIfs, tgNm, tgTup, tgNil, tgCons, getS, setS, optW_some, conD, negD, wip0, wipC, List.set_cons_zero, List.set_cons_succ, cmpLt, cmpLe, cmpGt, cmpGe, cmpEq, cmpNe, cmpIs, cmpIsN, cmpIn, cmpNotIn, binAdd, binSub, lenTup, lenLst, biMax, biMin, biInt, biIntB, tupTup, tupLst, lstTup, lstLst, ixT, ixL, slTup, slLst, atI0, atI1, atI2, atI3, atI4, atI5, isiTup, isiLst, seqTup, seqLst, lstOfLst, gOfTup, gOfLst, lstOfS, seqOfS, lenS, tupS, lstS, ixS, Sto.set_same, Sto.set_set, eqInt, eqStr, eqNil, isNon, Option.map_some, List.length_cons, List.length_nil, List.length_map]
  refine c_is_number rfl ?_
  have := hu.si n hn
  simp -implicitDefEqProofs only [isNum, decide_eq_true this.1, decide_eq_true this.2, iv, inInts, decide_eq_true hn, optW_some, if_true, if_false, Bool.false_eq_true, Bool.not_true, Bool.not_false, reduceIte, decide_true, decide_false, Bool.and_self]
  exact h
theorem c_is_comers {u : Su} {c : Com} {S : Sto} {R : QD} {E : XP} (hu : u.Ok) (hc : ComOk u c) (h : R (.bl true) S) : (Γ 6).sp [u.d, comD c] S R E := ⟨_, _, rfl, hu, hc, h⟩
theorem p_is_comers : Kept sp_is_comers b_is_comers 5 := by
  rintro ds S R E ⟨u, c, rfl, hu, hc, h⟩
  show wSs Γ Ct E b_is_comers (KR R) [some u.d, some (.tup [.tup (c.1.map D.int), .int c.2]), none, none, none] S
  have hu' : u.d = .tup [iv u.seats, iv u.sizes, .tup [.int u.rg, .int u.rs], .tup [.int u.cg, .int u.cs]] := rfl
  simp -implicitDefEqProofs only [b_is_comers, wSs, wS, wE, wA, wP, wI, wIfs, tgNm, tgTup, tgNil, tgCons, getS, setS, optW_some, conD, negD, wip0, wipC, List.set_cons_zero, List.set_cons_succ, cmpLt, cmpLe, cmpGt, cmpGe, cmpEq, cmpNe, cmpIs, cmpIsN, cmpIn, cmpNotIn, binAdd, binSub, lenTup, lenLst, biMax, biMin, biInt, biIntB, tupTup, tupLst, lstTup, lstLst, ixT, ixL, slTup, slLst, atI0, atI1, atI2, atI3, atI4, atI5, isiTup, isiLst, seqTup, seqLst, lstOfLst, gOfTup, gOfLst, lstOfS, seqOfS, lenS, tupS, lstS, ixS, Sto.set_same, Sto.set_set, eqInt, eqStr, eqNil, isNon, Option.map_some, List.length_cons, List.length_nil, List.length_map, if_true, if_false, Bool.false_eq_true, Bool.not_true, Bool.not_false, reduceIte, decide_true, decide_false, Bool.and_self]
  rw [hu']
  simp -implicitDefEqProofs only [wSs, wS, wE, wA, wP, wI, wIfs, tgNm, tgTup, tgNil, tgCons, getS, setS, optW_some, conD, negD, wip0, wipC, List.set_cons_zero, List.set_cons_succ, cmpLt, cmpLe, cmpGt, cmpGe, cmpEq, cmpNe, cmpIs, cmpIsN, cmpIn, cmpNotIn, binAdd, binSub, lenTup, lenLst, biMax, biMin, biInt, biIntB, tupTup, tupLst, lstTup, lstLst, ixT, ixL, slTup, slLst, atI0, atI1, atI2, atI3, atI4, atI5, isiTup, isiLst, seqTup, seqLst, lstOfLst, gOfTup, gOfLst, lstOfS, seqOfS, lenS, tupS, lstS, ixS, Sto.set_same, Sto.set_set, eqInt, eqStr, eqNil, isNon, Option.map_some, List.length_cons, List.length_nil, List.length_map, if_true, if_false, Bool.false_eq_true, Bool.not_true, Bool.not_false, reduceIte, decide_true, decide_false, Bool.and_self]
  have e1 : decide (u.cg < (c.1.length : Int)) = false := decide_eq_false (by have := hc.len; omega)
  simp -implicitDefEqProofs only [show (((0 + 1 + 1 : Nat) : Int) = 2) from rfl, e1, wSs, wS, wE, wA, wP, wI, wIfs, tgNm, tgTup, tgNil, tgCons, getS, setS, optW_some, conD, negD, wip0, wipC, List.set_cons_zero, List.set_cons_succ, cmpLt, cmpLe, cmpGt, cmpGe, cmpEq, cmpNe, cmpIs, cmpIsN, cmpIn, cmpNotIn, binAdd, binSub, lenTup, lenLst, biMax, biMin, biInt, biIntB, tupTup, tupLst, lstTup, lstLst, ixT, ixL, slTup, slLst, atI0, atI1, atI2, atI3, atI4, atI5, isiTup, isiLst, seqTup, seqLst, lstOfLst, gOfTup, gOfLst, lstOfS, seqOfS, lenS, tupS, lstS, ixS, Sto.set_same, Sto.set_set, eqInt, eqStr, eqNil, isNon, Option.map_some, List.length_cons, List.length_nil, List.length_map, if_true, if_false, Bool.false_eq_true, Bool.not_true, Bool.not_false, reduceIte, decide_true, decide_false, Bool.and_self]
  refine lcW_map (f := fun _ => D.bl true) ?_ trivial ?_
  · intro d hd R' hR
    obtain ⟨n, hn, rfl⟩ := List.mem_map.mp hd
    exact c_is_size (u := u) hu (hc.mem n hn) hR
  · simp -implicitDefEqProofs only [List.nil_append, List.map_map]
    rw [show ((fun _ => D.bl true) ∘ D.int) = (fun (x : Int) => D.bl ((fun _ => true) x)) from rfl]
    simp -implicitDefEqProofs only [all1_map]
    have e : List.all c.1 (fun _ => true) = true := by simp
    simp -implicitDefEqProofs only [e, optW_some, wSs, wS, wE, wA, wP, wI, wIfs, tgNm, tgTup, tgNil, tgCons, getS, setS, optW_some, conD, negD, wip0, wipC, List.set_cons_zero, List.set_cons_succ, cmpLt, cmpLe, cmpGt, cmpGe, cmpEq, cmpNe, cmpIs, cmpIsN, cmpIn, cmpNotIn, binAdd, binSub, lenTup, lenLst, biMax, biMin, biInt, biIntB, tupTup, tupLst, lstTup, lstLst, ixT, ixL, slTup, slLst, atI0, atI1, atI2, atI3, atI4, atI5, isiTup, isiLst, seqTup, seqLst, lstOfLst, gOfTup, gOfLst, lstOfS, seqOfS, lenS, tupS, lstS, ixS, Sto.set_same, Sto.set_set, eqInt, eqStr, eqNil, isNon, Option.map_some, List.length_cons, List.length_nil, List.length_map, if_true, if_false, Bool.false_eq_true, Bool.not_true, Bool.not_false, reduceIte, decide_true, decide_false, Bool.and_self]
    refine c_is_number rfl ?_
    simp -implicitDefEqProofs only [isNum, decide_eq_true hc.s0, decide_eq_true hc.s1, if_true, if_false, Bool.false_eq_true, Bool.not_true, Bool.not_false, reduceIte, decide_true, decide_false, Bool.and_self]
    exact h
theorem c_row_fault {u : Su} {r : List Com} {m : Nat} {S : Sto} {R : QD} {E : XP} (hu : u.Ok) (hc : ∀ c ∈ r, ComOk u c) (hl : r.length ≤ m) (h : R .non S) : (Γ 7).sp [u.d, rowD r, .int (m : Int)] S R E := ⟨_, _, _, rfl, hu, hc, hl, h⟩
theorem enum_map {α : Type} {f : α → D} : ∀ {xs : List α} {k : Nat}, enumD k (xs.map f) = (xs.zipIdx k).map fun p => D.tup [.int (p.2 : Nat), f p.1]
  | [], _ => rfl
  | x :: xs, k => by simp -implicitDefEqProofs only [List.map_cons, enumD, List.zipIdx_cons, enum_map]
theorem p_row_fault : Kept sp_row_fault b_row_fault 5 := by
  rintro ds S R E ⟨u, r, m, rfl, hu, hc, hl, h⟩
  show wSs Γ Ct E b_row_fault (KR R) [some u.d, some (.lst (r.map comD)), some (.int (m : Int)), none, none] S
  simp -implicitDefEqProofs only [b_row_fault, wSs, wS, wE, wA, wP, wI, wIfs, tgNm, tgTup, tgNil, tgCons, getS, setS, optW_some, conD, negD, wip0, wipC, List.set_cons_zero, List.set_cons_succ, cmpLt, cmpLe, cmpGt, cmpGe, cmpEq, cmpNe, cmpIs, cmpIsN, cmpIn, cmpNotIn, binAdd, binSub, lenTup, lenLst, biMax, biMin, biInt, biIntB, tupTup, tupLst, lstTup, lstLst, ixT, ixL, slTup, slLst, atI0, atI1, atI2, atI3, atI4, atI5, isiTup, isiLst, seqTup, seqLst, lstOfLst, gOfTup, gOfLst, lstOfS, seqOfS, lenS, tupS, lstS, ixS, Sto.set_same, Sto.set_set, eqInt, eqStr, eqNil, isNon, Option.map_some, List.length_cons, List.length_nil, List.length_map, if_true, if_false, Bool.false_eq_true, Bool.not_true, Bool.not_false, reduceIte, decide_true, decide_false, Bool.and_self]
  rw [cut_to, List.take_of_length_le (by simpa using hl), enum_map]
  refine forW_inv (fun ds s S' => S' = S ∧ (∃ x y, s = [some u.d, some (.lst (r.map comD)), some (.int (m : Int)), x, y]) ∧ ∀ d ∈ ds, ∃ i c, d = .tup [.int i, comD c] ∧ c ∈ r) ?_ ?_ ?_
  · rintro d ds s S' nxt ⟨rfl, ⟨x, y, rfl⟩, hd⟩ hn
    obtain ⟨i, c, rfl, hm⟩ := hd d (List.mem_cons_self ..)
    refine ⟨trivial, ?_⟩
    try simp -implicitDefEqProofs only [wSs, wS, wE, wA, wP, wI, wIfs, tgNm, tgTup, tgNil, tgCons, getS, setS, optW_some, conD, negD, wip0, wipC, List.set_cons_zero, List.set_cons_succ, cmpLt, cmpLe, cmpGt, cmpGe, cmpEq, cmpNe, cmpIs, cmpIsN, cmpIn, cmpNotIn, binAdd, binSub, lenTup, lenLst, biMax, biMin, biInt, biIntB, tupTup, tupLst, lstTup, lstLst, ixT, ixL, slTup, slLst, atI0, atI1, atI2, atI3, atI4, atI5, isiTup, isiLst, seqTup, seqLst, lstOfLst, gOfTup, gOfLst, lstOfS, seqOfS, lenS, tupS, lstS, ixS, Sto.set_same, Sto.set_set, eqInt, eqStr, eqNil, isNon, Option.map_some, List.length_cons, List.length_nil, List.length_map]
    refine c_is_comers hu (hc c hm) ?_
    simp -implicitDefEqProofs only [wSs, wS, wE, wA, wP, wI, wIfs, tgNm, tgTup, tgNil, tgCons, getS, setS, optW_some, conD, negD, wip0, wipC, List.set_cons_zero, List.set_cons_succ, cmpLt, cmpLe, cmpGt, cmpGe, cmpEq, cmpNe, cmpIs, cmpIsN, cmpIn, cmpNotIn, binAdd, binSub, lenTup, lenLst, biMax, biMin, biInt, biIntB, tupTup, tupLst, lstTup, lstLst, ixT, ixL, slTup, slLst, atI0, atI1, atI2, atI3, atI4, atI5, isiTup, isiLst, seqTup, seqLst, lstOfLst, gOfTup, gOfLst, lstOfS, seqOfS, lenS, tupS, lstS, ixS, Sto.set_same, Sto.set_set, eqInt, eqStr, eqNil, isNon, Option.map_some, List.length_cons, List.length_nil, List.length_map, if_true, if_false, Bool.false_eq_true, Bool.not_true, Bool.not_false, reduceIte, decide_true, decide_false, Bool.and_self]
    exact hn _ _ ⟨rfl, ⟨_, _, rfl⟩, fun e he => hd e (List.mem_cons_of_mem _ he)⟩
  · rintro s S' ⟨rfl, ⟨x, y, rfl⟩, _⟩
    refine ⟨trivial, ?_⟩
    have e : decide ((m : Int) < (r.length : Int)) = false := decide_eq_false (by omega)
    simp -implicitDefEqProofs only [wSs, wS, wE, wA, wP, wI, wIfs, tgNm, tgTup, tgNil, tgCons, getS, setS, optW_some, conD, negD, wip0, wipC, List.set_cons_zero, List.set_cons_succ, cmpLt, cmpLe, cmpGt, cmpGe, cmpEq, cmpNe, cmpIs, cmpIsN, cmpIn, cmpNotIn, binAdd, binSub, lenTup, lenLst, biMax, biMin, biInt, biIntB, tupTup, tupLst, lstTup, lstLst, ixT, ixL, slTup, slLst, atI0, atI1, atI2, atI3, atI4, atI5, isiTup, isiLst, seqTup, seqLst, lstOfLst, gOfTup, gOfLst, lstOfS, seqOfS, lenS, tupS, lstS, ixS, Sto.set_same, Sto.set_set, eqInt, eqStr, eqNil, isNon, Option.map_some, List.length_cons, List.length_nil, List.length_map, e, if_true, if_false, Bool.false_eq_true, Bool.not_true, Bool.not_false, reduceIte, decide_true, decide_false, Bool.and_self]
    exact h
  · refine ⟨rfl, ⟨_, _, rfl⟩, ?_⟩
    intro d hd
    obtain ⟨p, hp, rfl⟩ := List.mem_map.mp hd
    exact ⟨_, _, rfl, (List.mem_zipIdx' hp).2 ▸ List.getElem_mem _⟩
theorem c_check_row {u : Su} {r : List Com} {m : Nat} {S : Sto} {R : QD} {E : XP} (hu : u.Ok) (hc : ∀ c ∈ r, ComOk u c) (hl : r.length ≤ m) (h : R .non S) : (Γ 9).sp [u.d, rowD r, .int (m : Int)] S R E := ⟨_, _, _, rfl, hu, hc, hl, h⟩
theorem p_check_row : Kept sp_check_row b_check_row 4 := by
  rintro ds S R E ⟨u, r, m, rfl, hu, hc, hl, h⟩
  show wSs Γ Ct E b_check_row (KR R) [some u.d, some (rowD r), some (.int (m : Int)), none] S
  simp -implicitDefEqProofs only [b_check_row, wSs, wS, wE, wA, wP, wI, wIfs, tgNm, tgTup, tgNil, tgCons, getS, setS, optW_some, conD, negD, wip0, wipC, List.set_cons_zero, List.set_cons_succ, cmpLt, cmpLe, cmpGt, cmpGe, cmpEq, cmpNe, cmpIs, cmpIsN, cmpIn, cmpNotIn, binAdd, binSub, lenTup, lenLst, biMax, biMin, biInt, biIntB, tupTup, tupLst, lstTup, lstLst, ixT, ixL, slTup, slLst, atI0, atI1, atI2, atI3, atI4, atI5, isiTup, isiLst, seqTup, seqLst, lstOfLst, gOfTup, gOfLst, lstOfS, seqOfS, lenS, tupS, lstS, ixS, Sto.set_same, Sto.set_set, eqInt, eqStr, eqNil, isNon, Option.map_some, List.length_cons, List.length_nil, List.length_map]
  refine c_row_fault hu hc hl ?_
  simp -implicitDefEqProofs only [wSs, wS, wE, wA, wP, wI, wIfs, tgNm, tgTup, tgNil, tgCons, getS, setS, optW_some, conD, negD, wip0, wipC, List.set_cons_zero, List.set_cons_succ, cmpLt, cmpLe, cmpGt, cmpGe, cmpEq, cmpNe, cmpIs, cmpIsN, cmpIn, cmpNotIn, binAdd, binSub, lenTup, lenLst, biMax, biMin, biInt, biIntB, tupTup, tupLst, lstTup, lstLst, ixT, ixL, slTup, slLst, atI0, atI1, atI2, atI3, atI4, atI5, isiTup, isiLst, seqTup, seqLst, lstOfLst, gOfTup, gOfLst, lstOfS, seqOfS, lenS, tupS, lstS, ixS, Sto.set_same, Sto.set_set, eqInt, eqStr, eqNil, isNon, Option.map_some, List.length_cons, List.length_nil, List.length_map, if_true, if_false, Bool.false_eq_true, Bool.not_true, Bool.not_false, reduceIte, decide_true, decide_false, Bool.and_self]
  exact h
theorem c_is_count {d : D} {S : Sto} {R : QD} {E : XP} (hv : val d = true) (h : R (.bl (isCount d)) S) : (Γ 10).sp [d] S R E := ⟨_, rfl, hv, h⟩
theorem p_is_count : Kept sp_is_count b_is_count 1 := by
  rintro ds S R E ⟨d, rfl, hv, h⟩
  show wSs Γ Ct E b_is_count (KR R) [some d] S
  simp -implicitDefEqProofs only [b_is_count, wSs, wS, wE, wA, wP, wI, wIfs, tgNm, tgTup, tgNil, tgCons, getS, setS, optW_some, conD, negD, wip0, wipC, List.set_cons_zero, List.set_cons_succ, cmpLt, cmpLe, cmpGt, cmpGe, cmpEq, cmpNe, cmpIs, cmpIsN, cmpIn, cmpNotIn, binAdd, binSub, lenTup, lenLst, biMax, biMin, biInt, biIntB, tupTup, tupLst, lstTup, lstLst, ixT, ixL, slTup, slLst, atI0, atI1, atI2, atI3, atI4, atI5, isiTup, isiLst, seqTup, seqLst, lstOfLst, gOfTup, gOfLst, lstOfS, seqOfS, lenS, tupS, lstS, ixS, Sto.set_same, Sto.set_set, eqInt, eqStr, eqNil, isNon, Option.map_some, List.length_cons, List.length_nil, List.length_map, isi_int hv, isi_bool hv]
  cases d with
  | int i => simp -implicitDefEqProofs only [isIntD, isBoolD, wSs, wS, wE, wA, wP, wI, wIfs, tgNm, tgTup, tgNil, tgCons, getS, setS, optW_some, conD, negD, wip0, wipC, List.set_cons_zero, List.set_cons_succ, cmpLt, cmpLe, cmpGt, cmpGe, cmpEq, cmpNe, cmpIs, cmpIsN, cmpIn, cmpNotIn, binAdd, binSub, lenTup, lenLst, biMax, biMin, biInt, biIntB, tupTup, tupLst, lstTup, lstLst, ixT, ixL, slTup, slLst, atI0, atI1, atI2, atI3, atI4, atI5, isiTup, isiLst, seqTup, seqLst, lstOfLst, gOfTup, gOfLst, lstOfS, seqOfS, lenS, tupS, lstS, ixS, Sto.set_same, Sto.set_set, eqInt, eqStr, eqNil, isNon, Option.map_some, List.length_cons, List.length_nil, List.length_map, if_true, if_false, Bool.false_eq_true, Bool.not_true, Bool.not_false, reduceIte, decide_true, decide_false, Bool.and_self]; exact h
  | loc => cases hv
  | dct => cases hv
  | _ => simp -implicitDefEqProofs only [isIntD, isBoolD, wSs, wS, wE, wA, wP, wI, wIfs, tgNm, tgTup, tgNil, tgCons, getS, setS, optW_some, conD, negD, wip0, wipC, List.set_cons_zero, List.set_cons_succ, cmpLt, cmpLe, cmpGt, cmpGe, cmpEq, cmpNe, cmpIs, cmpIsN, cmpIn, cmpNotIn, binAdd, binSub, lenTup, lenLst, biMax, biMin, biInt, biIntB, tupTup, tupLst, lstTup, lstLst, ixT, ixL, slTup, slLst, atI0, atI1, atI2, atI3, atI4, atI5, isiTup, isiLst, seqTup, seqLst, lstOfLst, gOfTup, gOfLst, lstOfS, seqOfS, lenS, tupS, lstS, ixS, Sto.set_same, Sto.set_set, eqInt, eqStr, eqNil, isNon, Option.map_some, List.length_cons, List.length_nil, List.length_map, if_true, if_false, Bool.false_eq_true, Bool.not_true, Bool.not_false, reduceIte, decide_true, decide_false, Bool.and_self]; exact h
theorem c_check_count {p : Int} {S : Sto} {R : QD} {E : XP} (hp : 0 ≤ p) (h : R .non S) : (Γ 19).sp [.int p] S R E := ⟨_, rfl, hp, h⟩
theorem p_check_count : Kept sp_check_count b_check_count 1 := by
  rintro ds S R E ⟨p, rfl, hp, h⟩
  show wSs Γ Ct E b_check_count (KR R) [some (.int p)] S
  simp -implicitDefEqProofs only [b_check_count, wSs, wS, wE, wA, wP, wI, wIfs, tgNm, tgTup, tgNil, tgCons, getS, setS, optW_some, conD, negD, wip0, wipC, List.set_cons_zero, List.set_cons_succ, cmpLt, cmpLe, cmpGt, cmpGe, cmpEq, cmpNe, cmpIs, cmpIsN, cmpIn, cmpNotIn, binAdd, binSub, lenTup, lenLst, biMax, biMin, biInt, biIntB, tupTup, tupLst, lstTup, lstLst, ixT, ixL, slTup, slLst, atI0, atI1, atI2, atI3, atI4, atI5, isiTup, isiLst, seqTup, seqLst, lstOfLst, gOfTup, gOfLst, lstOfS, seqOfS, lenS, tupS, lstS, ixS, Sto.set_same, Sto.set_set, eqInt, eqStr, eqNil, isNon, Option.map_some, List.length_cons, List.length_nil, List.length_map]
  refine c_is_count rfl ?_
  simp -implicitDefEqProofs only [isCount, decide_eq_true hp, if_true, if_false, Bool.false_eq_true, Bool.not_true, Bool.not_false, reduceIte, decide_true, decide_false, Bool.and_self]
  exact h
theorem c_check_ahead {u : Su} {r : List Com} {S : Sto} {R : QD} {E : XP} (hu : u.Ok) (hc : ∀ c ∈ r, ComOk u c) (hl : r.length ≤ 16) (h : R .non S) : (Γ 18).sp [u.d, rowD r] S R E := ⟨_, _, rfl, hu, hc, hl, h⟩
theorem p_check_ahead : Kept sp_check_ahead b_check_ahead 2 := by
  rintro ds S R E ⟨u, r, rfl, hu, hc, hl, h⟩
  show wSs Γ Ct E b_check_ahead (KR R) [some u.d, some (rowD r)] S
  simp -implicitDefEqProofs only [b_check_ahead, wSs, wS, wE, wA, wP, wI, wIfs, tgNm, tgTup, tgNil, tgCons, getS, setS, optW_some, conD, negD, wip0, wipC, List.set_cons_zero, List.set_cons_succ, cmpLt, cmpLe, cmpGt, cmpGe, cmpEq, cmpNe, cmpIs, cmpIsN, cmpIn, cmpNotIn, binAdd, binSub, lenTup, lenLst, biMax, biMin, biInt, biIntB, tupTup, tupLst, lstTup, lstLst, ixT, ixL, slTup, slLst, atI0, atI1, atI2, atI3, atI4, atI5, isiTup, isiLst, seqTup, seqLst, lstOfLst, gOfTup, gOfLst, lstOfS, seqOfS, lenS, tupS, lstS, ixS, Sto.set_same, Sto.set_set, eqInt, eqStr, eqNil, isNon, Option.map_some, List.length_cons, List.length_nil, List.length_map]
  refine c_check_setup hu ?_
  simp -implicitDefEqProofs only [Ct]
  exact c_check_row (m := 16) hu hc hl h
theorem c_can_be_done {w : Str} {f l s : Int} {S : Sto} {R : QD} {E : XP} (h : R (.bl (canDo w f l s)) S) : (Γ 11).sp [.str w, .int f, .int l, .int s] S R E := ⟨_, _, _, _, rfl, h⟩
theorem p_can_be_done : Kept sp_can_be_done b_can_be_done 4 := by
  rintro ds S R E ⟨w, f, l, s, rfl, h⟩
  show wSs Γ Ct E b_can_be_done (KR R) [some (.str w), some (.int f), some (.int l), some (.int s)] S
  simp -implicitDefEqProofs only [b_can_be_done, wSs, wS, wE, wA, wP, wI, wIfs, tgNm, tgTup, tgNil, tgCons, getS, setS, optW_some, conD, negD, wip0, wipC, List.set_cons_zero, List.set_cons_succ, cmpLt, cmpLe, cmpGt, cmpGe, cmpEq, cmpNe, cmpIs, cmpIsN, cmpIn, cmpNotIn, binAdd, binSub, lenTup, lenLst, biMax, biMin, biInt, biIntB, tupTup, tupLst, lstTup, lstLst, ixT, ixL, slTup, slLst, atI0, atI1, atI2, atI3, atI4, atI5, isiTup, isiLst, seqTup, seqLst, lstOfLst, gOfTup, gOfLst, lstOfS, seqOfS, lenS, tupS, lstS, ixS, Sto.set_same, Sto.set_set, eqInt, eqStr, eqNil, isNon, Option.map_some, List.length_cons, List.length_nil, List.length_map]
  unfold canDo at h
  by_cases a : w = kG
  · simp -implicitDefEqProofs only [a, if_true, if_false, Bool.false_eq_true, Bool.not_true, Bool.not_false, reduceIte, decide_true, decide_false, Bool.and_self] at h ⊢
    by_cases q : 0 < f <;> simp -implicitDefEqProofs only [q, wSs, wS, wE, wA, wP, wI, wIfs, tgNm, tgTup, tgNil, tgCons, getS, setS, optW_some, conD, negD, wip0, wipC, List.set_cons_zero, List.set_cons_succ, cmpLt, cmpLe, cmpGt, cmpGe, cmpEq, cmpNe, cmpIs, cmpIsN, cmpIn, cmpNotIn, binAdd, binSub, lenTup, lenLst, biMax, biMin, biInt, biIntB, tupTup, tupLst, lstTup, lstLst, ixT, ixL, slTup, slLst, atI0, atI1, atI2, atI3, atI4, atI5, isiTup, isiLst, seqTup, seqLst, lstOfLst, gOfTup, gOfLst, lstOfS, seqOfS, lenS, tupS, lstS, ixS, Sto.set_same, Sto.set_set, eqInt, eqStr, eqNil, isNon, Option.map_some, List.length_cons, List.length_nil, List.length_map, if_true, if_false, Bool.false_eq_true, Bool.not_true, Bool.not_false, reduceIte, decide_true, decide_false, Bool.and_self, Bool.true_and, Bool.false_and] at h ⊢ <;> exact h
  by_cases b : w = kS
  · simp -implicitDefEqProofs only [a, b, if_true, if_false, Bool.false_eq_true, Bool.not_true, Bool.not_false, reduceIte, decide_true, decide_false, Bool.and_self] at h ⊢
    by_cases q : 0 < s <;> simp [q] at h ⊢ <;> exact h
  by_cases c : w = kP
  · simp -implicitDefEqProofs only [a, b, c, if_true, if_false, Bool.false_eq_true, Bool.not_true, Bool.not_false, reduceIte, decide_true, decide_false, Bool.and_self] at h ⊢
    by_cases q : l < f <;> simp [q, optW_some] at h ⊢ <;> exact h
  · simp -implicitDefEqProofs only [a, b, c, if_true, if_false, Bool.false_eq_true, Bool.not_true, Bool.not_false, reduceIte, decide_true, decide_false, Bool.and_self] at h ⊢
    exact h
theorem c_front_of {line : List Int} {S : Sto} {R : QD} {E : XP} (h : R (.int (front line)) S) : (Γ 12).sp [iv line] S R E := ⟨_, rfl, h⟩
theorem p_front_of : Kept sp_front_of b_front_of 1 := by
  rintro ds S R E ⟨line, rfl, h⟩
  show wSs Γ Ct E b_front_of (KR R) [some (.tup (line.map D.int))] S
  simp -implicitDefEqProofs only [b_front_of, wSs, wS, wE, wA, wP, wI, wIfs, tgNm, tgTup, tgNil, tgCons, getS, setS, optW_some, conD, negD, wip0, wipC, List.set_cons_zero, List.set_cons_succ, cmpLt, cmpLe, cmpGt, cmpGe, cmpEq, cmpNe, cmpIs, cmpIsN, cmpIn, cmpNotIn, binAdd, binSub, lenTup, lenLst, biMax, biMin, biInt, biIntB, tupTup, tupLst, lstTup, lstLst, ixT, ixL, slTup, slLst, atI0, atI1, atI2, atI3, atI4, atI5, isiTup, isiLst, seqTup, seqLst, lstOfLst, gOfTup, gOfLst, lstOfS, seqOfS, lenS, tupS, lstS, ixS, Sto.set_same, Sto.set_set, eqInt, eqStr, eqNil, isNon, Option.map_some, List.length_cons, List.length_nil, List.length_map]
  cases line with
  | nil => simp -implicitDefEqProofs only [wSs, wS, wE, wA, wP, wI, wIfs, tgNm, tgTup, tgNil, tgCons, getS, setS, optW_some, conD, negD, wip0, wipC, List.set_cons_zero, List.set_cons_succ, cmpLt, cmpLe, cmpGt, cmpGe, cmpEq, cmpNe, cmpIs, cmpIsN, cmpIn, cmpNotIn, binAdd, binSub, lenTup, lenLst, biMax, biMin, biInt, biIntB, tupTup, tupLst, lstTup, lstLst, ixT, ixL, slTup, slLst, atI0, atI1, atI2, atI3, atI4, atI5, isiTup, isiLst, seqTup, seqLst, lstOfLst, gOfTup, gOfLst, lstOfS, seqOfS, lenS, tupS, lstS, ixS, Sto.set_same, Sto.set_set, eqInt, eqStr, eqNil, isNon, Option.map_some, List.length_cons, List.length_nil, List.length_map, if_true, if_false, Bool.false_eq_true, Bool.not_true, Bool.not_false, reduceIte, decide_true, decide_false, Bool.and_self]; exact h
  | cons x line => simp -implicitDefEqProofs only [List.map_cons, reduceCtorEq, wSs, wS, wE, wA, wP, wI, wIfs, tgNm, tgTup, tgNil, tgCons, getS, setS, optW_some, conD, negD, wip0, wipC, List.set_cons_zero, List.set_cons_succ, cmpLt, cmpLe, cmpGt, cmpGe, cmpEq, cmpNe, cmpIs, cmpIsN, cmpIn, cmpNotIn, binAdd, binSub, lenTup, lenLst, biMax, biMin, biInt, biIntB, tupTup, tupLst, lstTup, lstLst, ixT, ixL, slTup, slLst, atI0, atI1, atI2, atI3, atI4, atI5, isiTup, isiLst, seqTup, seqLst, lstOfLst, gOfTup, gOfLst, lstOfS, seqOfS, lenS, tupS, lstS, ixS, Sto.set_same, Sto.set_set, eqInt, eqStr, eqNil, isNon, Option.map_some, List.length_cons, List.length_nil, List.length_map, if_true, if_false, Bool.false_eq_true, Bool.not_true, Bool.not_false, reduceIte, decide_true, decide_false, Bool.and_self]; exact h
theorem c_may_be_done {w : Str} {line : List Int} {l s p : Int} {S : Sto} {R : QD} {E : XP} (h : R (.bl (mayDo w line l s p)) S) : (Γ 13).sp [.str w, iv line, .int l, .int s, .int p] S R E := ⟨_, _, _, _, _, rfl, h⟩
theorem p_may_be_done : Kept sp_may_be_done b_may_be_done 5 := by
  rintro ds S R E ⟨w, line, l, s, p, rfl, h⟩
  show wSs Γ Ct E b_may_be_done (KR R) [some (.str w), some (iv line), some (.int l), some (.int s), some (.int p)] S
  simp -implicitDefEqProofs only [b_may_be_done, wSs, wS, wE, wA, wP, wI, wIfs, tgNm, tgTup, tgNil, tgCons, getS, setS, optW_some, conD, negD, wip0, wipC, List.set_cons_zero, List.set_cons_succ, cmpLt, cmpLe, cmpGt, cmpGe, cmpEq, cmpNe, cmpIs, cmpIsN, cmpIn, cmpNotIn, binAdd, binSub, lenTup, lenLst, biMax, biMin, biInt, biIntB, tupTup, tupLst, lstTup, lstLst, ixT, ixL, slTup, slLst, atI0, atI1, atI2, atI3, atI4, atI5, isiTup, isiLst, seqTup, seqLst, lstOfLst, gOfTup, gOfLst, lstOfS, seqOfS, lenS, tupS, lstS, ixS, Sto.set_same, Sto.set_set, eqInt, eqStr, eqNil, isNon, Option.map_some, List.length_cons, List.length_nil, List.length_map]
  refine c_front_of ?_
  refine c_can_be_done ?_
  unfold mayDo at h
  cases q : canDo w (front line) l s
  · rw [q] at h; simpa using h
  · rw [q] at h
    by_cases c : w = kP <;> simp [c] at h ⊢ <;> exact h
end FC
namespace FC
open PySem PySem.Spec PyProof.Rows DL
theorem iv_cut1 {x : Int} {line : List Int} : cutD ((x :: line).map D.int) (some 1) none = line.map D.int := by
  rw [show (1 : Int) = ((1 : Nat) : Int) from rfl, cut_from]; rfl
theorem c_seated {w : Str} {line : List Int} {s l : Int} {S : Sto} {R : QD} {E : XP} (h1 : w ≠ kS → line ≠ []) (h2 : line.length ≤ 1000) (h : R (seatD (seat w line s l)) S) : (Γ 14).sp [.str w, iv line, .int s, .int l] S R E := ⟨_, _, _, _, rfl, h1, h2, h⟩
theorem p_seated : Kept sp_seated b_seated 4 := by
  rintro ds S R E ⟨w, line, s, l, rfl, h1, h2, h⟩
  show wSs Γ Ct E b_seated (KR R) [some (.str w), some (.tup (line.map D.int)), some (.int s), some (.int l)] S
  simp -implicitDefEqProofs only [b_seated, wSs, wS, wE, wA, wP, wI, wIfs, tgNm, tgTup, tgNil, tgCons, getS, setS, optW_some, conD, negD, wip0, wipC, List.set_cons_zero, List.set_cons_succ, cmpLt, cmpLe, cmpGt, cmpGe, cmpEq, cmpNe, cmpIs, cmpIsN, cmpIn, cmpNotIn, binAdd, binSub, lenTup, lenLst, biMax, biMin, biInt, biIntB, tupTup, tupLst, lstTup, lstLst, ixT, ixL, slTup, slLst, atI0, atI1, atI2, atI3, atI4, atI5, isiTup, isiLst, seqTup, seqLst, lstOfLst, gOfTup, gOfLst, lstOfS, seqOfS, lenS, tupS, lstS, ixS, Sto.set_same, Sto.set_set, eqInt, eqStr, eqNil, isNon, Option.map_some, List.length_cons, List.length_nil, List.length_map]
  unfold seat at h
  by_cases a : w = kG
  · subst a
    cases line with
    | nil => exact absurd rfl (h1 (by decide))
    | cons x line =>
      simp -implicitDefEqProofs only [if_true, if_false, Bool.false_eq_true, Bool.not_true, Bool.not_false, reduceIte, decide_true, decide_false, Bool.and_self, List.map_cons, wSs, wS, wE, wA, wP, wI, wIfs, tgNm, tgTup, tgNil, tgCons, getS, setS, optW_some, conD, negD, wip0, wipC, List.set_cons_zero, List.set_cons_succ, cmpLt, cmpLe, cmpGt, cmpGe, cmpEq, cmpNe, cmpIs, cmpIsN, cmpIn, cmpNotIn, binAdd, binSub, lenTup, lenLst, biMax, biMin, biInt, biIntB, tupTup, tupLst, lstTup, lstLst, ixT, ixL, slTup, slLst, atI0, atI1, atI2, atI3, atI4, atI5, isiTup, isiLst, seqTup, seqLst, lstOfLst, gOfTup, gOfLst, lstOfS, seqOfS, lenS, tupS, lstS, ixS, Sto.set_same, Sto.set_set, eqInt, eqStr, eqNil, isNon, Option.map_some, List.length_cons, List.length_nil, List.length_map] at h ⊢
      rw [← List.map_cons, iv_cut1]
      exact h
  by_cases b : w = kS
  · simp -implicitDefEqProofs only [a, b, if_true, if_false, Bool.false_eq_true, Bool.not_true, Bool.not_false, reduceIte, decide_true, decide_false, Bool.and_self] at h ⊢
    exact h
  · cases line with
    | nil => exact absurd rfl (h1 b)
    | cons x line =>
      simp -implicitDefEqProofs only [a, b, if_true, if_false, Bool.false_eq_true, Bool.not_true, Bool.not_false, reduceIte, decide_true, decide_false, Bool.and_self, List.map_cons, wSs, wS, wE, wA, wP, wI, wIfs, tgNm, tgTup, tgNil, tgCons, getS, setS, optW_some, conD, negD, wip0, wipC, List.set_cons_zero, List.set_cons_succ, cmpLt, cmpLe, cmpGt, cmpGe, cmpEq, cmpNe, cmpIs, cmpIsN, cmpIn, cmpNotIn, binAdd, binSub, lenTup, lenLst, biMax, biMin, biInt, biIntB, tupTup, tupLst, lstTup, lstLst, ixT, ixL, slTup, slLst, atI0, atI1, atI2, atI3, atI4, atI5, isiTup, isiLst, seqTup, seqLst, lstOfLst, gOfTup, gOfLst, lstOfS, seqOfS, lenS, tupS, lstS, ixS, Sto.set_same, Sto.set_set, eqInt, eqStr, eqNil, isNon, Option.map_some, List.length_cons, List.length_nil, List.length_map] at h ⊢
      rw [← List.map_cons, iv_cut1, binTup (by simp at h2 ⊢; omega)]
      exact h
theorem c_let_in {u : Su} {line : List Int} {s : Int} {c : Com} {S : Sto} {R : QD} {E : XP} (h1 : line.length ≤ 1000) (h2 : c.1.length ≤ 1000) (h : R (letD (letIn u line s c)) S) : (Γ 16).sp [u.d, iv line, .int s, comD c] S R E := ⟨_, _, _, _, rfl, h1, h2, h⟩
theorem p_let_in : Kept sp_let_in b_let_in 8 := by
  rintro ds S R E ⟨u, line, s, c, rfl, h1, h2, h⟩
  show wSs Γ Ct E b_let_in (KR R) [some (.tup [iv u.seats, iv u.sizes, .tup [.int u.rg, .int u.rs], .tup [.int u.cg, .int u.cs]]), some (.tup (line.map D.int)), some (.int s), some (.tup [.tup (c.1.map D.int), .int c.2]), none, none, none, none] S
  simp -implicitDefEqProofs only [b_let_in, wSs, wS, wE, wA, wP, wI, wIfs, tgNm, tgTup, tgNil, tgCons, getS, setS, optW_some, conD, negD, wip0, wipC, List.set_cons_zero, List.set_cons_succ, cmpLt, cmpLe, cmpGt, cmpGe, cmpEq, cmpNe, cmpIs, cmpIsN, cmpIn, cmpNotIn, binAdd, binSub, lenTup, lenLst, biMax, biMin, biInt, biIntB, tupTup, tupLst, lstTup, lstLst, ixT, ixL, slTup, slLst, atI0, atI1, atI2, atI3, atI4, atI5, isiTup, isiLst, seqTup, seqLst, lstOfLst, gOfTup, gOfLst, lstOfS, seqOfS, lenS, tupS, lstS, ixS, Sto.set_same, Sto.set_set, eqInt, eqStr, eqNil, isNon, Option.map_some, List.length_cons, List.length_nil, List.length_map]
  rw [binTup (by simp; omega), ← List.map_append]
  try simp -implicitDefEqProofs only [wSs, wS, wE, wA, wP, wI, wIfs, tgNm, tgTup, tgNil, tgCons, getS, setS, optW_some, conD, negD, wip0, wipC, List.set_cons_zero, List.set_cons_succ, cmpLt, cmpLe, cmpGt, cmpGe, cmpEq, cmpNe, cmpIs, cmpIsN, cmpIn, cmpNotIn, binAdd, binSub, lenTup, lenLst, biMax, biMin, biInt, biIntB, tupTup, tupLst, lstTup, lstLst, ixT, ixL, slTup, slLst, atI0, atI1, atI2, atI3, atI4, atI5, isiTup, isiLst, seqTup, seqLst, lstOfLst, gOfTup, gOfLst, lstOfS, seqOfS, lenS, tupS, lstS, ixS, Sto.set_same, Sto.set_set, eqInt, eqStr, eqNil, isNon, Option.map_some, List.length_cons, List.length_nil, List.length_map]
  rw [cut_toI (by omega), ← List.map_take]
  try simp -implicitDefEqProofs only [wSs, wS, wE, wA, wP, wI, wIfs, tgNm, tgTup, tgNil, tgCons, getS, setS, optW_some, conD, negD, wip0, wipC, List.set_cons_zero, List.set_cons_succ, cmpLt, cmpLe, cmpGt, cmpGe, cmpEq, cmpNe, cmpIs, cmpIsN, cmpIn, cmpNotIn, binAdd, binSub, lenTup, lenLst, biMax, biMin, biInt, biIntB, tupTup, tupLst, lstTup, lstLst, ixT, ixL, slTup, slLst, atI0, atI1, atI2, atI3, atI4, atI5, isiTup, isiLst, seqTup, seqLst, lstOfLst, gOfTup, gOfLst, lstOfS, seqOfS, lenS, tupS, lstS, ixS, Sto.set_same, Sto.set_set, eqInt, eqStr, eqNil, isNon, Option.map_some, List.length_cons, List.length_nil, List.length_map]
  simp -implicitDefEqProofs only [letD, letIn, iv] at h
  exact h
theorem eqD_deed {w : Str} {n : Int} {e : Deed} {S : Sto} (hw : PyData.strOk w = true) (he : PyData.strOk e.1 = true) : eqD S (.tup [.str w, .int n]) (deedD e) = some (decide (w = e.1) && decide (n = e.2)) :=
  eqD_pd (n := 2) (p := .tuple [.str w, .int n]) (q := .tuple [.str e.1, .int e.2]) (by simp [ok0, ok0s, hw]) (by simp [ok0, ok0s, he, deedD]) (by omega) rfl rfl (by
    simp -implicitDefEqProofs only [PyData.eqv, PyData.eqvAll, Bool.and_true]
    congr 1)
theorem word_ok {w : Str} (h : w = kG ∨ w = kS ∨ w = kP) : PyData.strOk w = true := by
  rcases h with rfl | rfl | rfl <;> decide +kernel
theorem c_is_done {d : D} {e : Deed} {S : Sto} {R : QD} {E : XP} (hd : ok0 20 d = true) (he : e.1 = kG ∨ e.1 = kS ∨ e.1 = kP) (h : R (.bl (isDone d e)) S) : (Γ 15).sp [d, deedD e] S R E := ⟨_, _, rfl, hd, he, h⟩
theorem isDone_len {ds : List D} {e : Deed} (h : ds.length ≠ 2) : isDone (.tup ds) e = false := by
  unfold isDone
  split
  · rename_i w n q; cases q; exact absurd rfl h
  · rfl
theorem p_is_done : Kept sp_is_done b_is_done 2 := by
  rintro ds S R E ⟨d, e, rfl, hd, he, h⟩
  show wSs Γ Ct E b_is_done (KR R) [some d, some (deedD e)] S
  simp -implicitDefEqProofs only [b_is_done, wSs, wS, wE, wA, wP, wI, wIfs, tgNm, tgTup, tgNil, tgCons, getS, setS, optW_some, conD, negD, wip0, wipC, List.set_cons_zero, List.set_cons_succ, cmpLt, cmpLe, cmpGt, cmpGe, cmpEq, cmpNe, cmpIs, cmpIsN, cmpIn, cmpNotIn, binAdd, binSub, lenTup, lenLst, biMax, biMin, biInt, biIntB, tupTup, tupLst, lstTup, lstLst, ixT, ixL, slTup, slLst, atI0, atI1, atI2, atI3, atI4, atI5, isiTup, isiLst, seqTup, seqLst, lstOfLst, gOfTup, gOfLst, lstOfS, seqOfS, lenS, tupS, lstS, ixS, Sto.set_same, Sto.set_set, eqInt, eqStr, eqNil, isNon, Option.map_some, List.length_cons, List.length_nil, List.length_map, isi_tuple (ok0_val hd)]
  match d, hd, h with
  | .non, hd, h => exact h
  | .bl _, hd, h => exact h
  | .int _, hd, h => exact h
  | .str _, hd, h => exact h
  | .lst _, hd, h => exact h
  | .tup [], hd, h => exact h
  | .tup [_], hd, h =>
    rw [isDone_len (by simp)] at h
    simp -implicitDefEqProofs only [isTupD, wSs, wS, wE, wA, wP, wI, wIfs, tgNm, tgTup, tgNil, tgCons, getS, setS, optW_some, conD, negD, wip0, wipC, List.set_cons_zero, List.set_cons_succ, cmpLt, cmpLe, cmpGt, cmpGe, cmpEq, cmpNe, cmpIs, cmpIsN, cmpIn, cmpNotIn, binAdd, binSub, lenTup, lenLst, biMax, biMin, biInt, biIntB, tupTup, tupLst, lstTup, lstLst, ixT, ixL, slTup, slLst, atI0, atI1, atI2, atI3, atI4, atI5, isiTup, isiLst, seqTup, seqLst, lstOfLst, gOfTup, gOfLst, lstOfS, seqOfS, lenS, tupS, lstS, ixS, Sto.set_same, Sto.set_set, eqInt, eqStr, eqNil, isNon, Option.map_some, List.length_cons, List.length_nil, List.length_map, show decide (((0 + 1 : Nat) : Int) = 2) = false from rfl, if_true, if_false, Bool.false_eq_true, Bool.not_true, Bool.not_false, reduceIte, decide_true, decide_false, Bool.and_self]
    exact h
  | .tup (a :: b :: c :: ds), hd, h =>
    have e1 : decide (((ds.length + 1 + 1 + 1 : Nat) : Int) = 2) = false := decide_eq_false (by omega)
    rw [isDone_len (by simp)] at h
    simp -implicitDefEqProofs only [isTupD, wSs, wS, wE, wA, wP, wI, wIfs, tgNm, tgTup, tgNil, tgCons, getS, setS, optW_some, conD, negD, wip0, wipC, List.set_cons_zero, List.set_cons_succ, cmpLt, cmpLe, cmpGt, cmpGe, cmpEq, cmpNe, cmpIs, cmpIsN, cmpIn, cmpNotIn, binAdd, binSub, lenTup, lenLst, biMax, biMin, biInt, biIntB, tupTup, tupLst, lstTup, lstLst, ixT, ixL, slTup, slLst, atI0, atI1, atI2, atI3, atI4, atI5, isiTup, isiLst, seqTup, seqLst, lstOfLst, gOfTup, gOfLst, lstOfS, seqOfS, lenS, tupS, lstS, ixS, Sto.set_same, Sto.set_set, eqInt, eqStr, eqNil, isNon, Option.map_some, List.length_cons, List.length_nil, List.length_map, e1, if_true, if_false, Bool.false_eq_true, Bool.not_true, Bool.not_false, reduceIte, decide_true, decide_false, Bool.and_self]
    exact h
  | .tup [a, b], hd, h =>
    have hab : ok0 19 a = true ∧ ok0 19 b = true := by
      rw [ok0, ok0s_all] at hd
      exact ⟨hd a (by simp), hd b (by simp)⟩
    simp -implicitDefEqProofs only [isTupD, wSs, wS, wE, wA, wP, wI, wIfs, tgNm, tgTup, tgNil, tgCons, getS, setS, optW_some, conD, negD, wip0, wipC, List.set_cons_zero, List.set_cons_succ, cmpLt, cmpLe, cmpGt, cmpGe, cmpEq, cmpNe, cmpIs, cmpIsN, cmpIn, cmpNotIn, binAdd, binSub, lenTup, lenLst, biMax, biMin, biInt, biIntB, tupTup, tupLst, lstTup, lstLst, ixT, ixL, slTup, slLst, atI0, atI1, atI2, atI3, atI4, atI5, isiTup, isiLst, seqTup, seqLst, lstOfLst, gOfTup, gOfLst, lstOfS, seqOfS, lenS, tupS, lstS, ixS, Sto.set_same, Sto.set_set, eqInt, eqStr, eqNil, isNon, Option.map_some, List.length_cons, List.length_nil, List.length_map, if_true, if_false, Bool.false_eq_true, Bool.not_true, Bool.not_false, reduceIte, decide_true, decide_false, Bool.and_self, isi_str (ok0_val hab.1)]
    have e1 : decide (((0 + 1 + 1 : Nat) : Int) = 2) = true := rfl
    simp -implicitDefEqProofs only [e1, if_true, if_false, Bool.false_eq_true, Bool.not_true, Bool.not_false, reduceIte, decide_true, decide_false, Bool.and_self]
    cases a with
    | str w =>
      simp -implicitDefEqProofs only [isStrD, wSs, wS, wE, wA, wP, wI, wIfs, tgNm, tgTup, tgNil, tgCons, getS, setS, optW_some, conD, negD, wip0, wipC, List.set_cons_zero, List.set_cons_succ, cmpLt, cmpLe, cmpGt, cmpGe, cmpEq, cmpNe, cmpIs, cmpIsN, cmpIn, cmpNotIn, binAdd, binSub, lenTup, lenLst, biMax, biMin, biInt, biIntB, tupTup, tupLst, lstTup, lstLst, ixT, ixL, slTup, slLst, atI0, atI1, atI2, atI3, atI4, atI5, isiTup, isiLst, seqTup, seqLst, lstOfLst, gOfTup, gOfLst, lstOfS, seqOfS, lenS, tupS, lstS, ixS, Sto.set_same, Sto.set_set, eqInt, eqStr, eqNil, isNon, Option.map_some, List.length_cons, List.length_nil, List.length_map, if_true, if_false, Bool.false_eq_true, Bool.not_true, Bool.not_false, reduceIte, decide_true, decide_false, Bool.and_self]
      refine c_is_number (ok0_val hab.2) ?_
      cases b with
      | int n =>
        rw [show isDone (.tup [.str w, .int n]) e = (isNum (.int n) 1 5 && (decide (w = e.1) && decide (n = e.2))) from rfl] at h
        rw [eqD_deed (by have := hab.1; simpa [ok0] using this) (word_ok he)]
        by_cases q : isNum (.int n) 1 5 = true
        · simp -implicitDefEqProofs only [q, wSs, wS, wE, wA, wP, wI, wIfs, tgNm, tgTup, tgNil, tgCons, getS, setS, optW_some, conD, negD, wip0, wipC, List.set_cons_zero, List.set_cons_succ, cmpLt, cmpLe, cmpGt, cmpGe, cmpEq, cmpNe, cmpIs, cmpIsN, cmpIn, cmpNotIn, binAdd, binSub, lenTup, lenLst, biMax, biMin, biInt, biIntB, tupTup, tupLst, lstTup, lstLst, ixT, ixL, slTup, slLst, atI0, atI1, atI2, atI3, atI4, atI5, isiTup, isiLst, seqTup, seqLst, lstOfLst, gOfTup, gOfLst, lstOfS, seqOfS, lenS, tupS, lstS, ixS, Sto.set_same, Sto.set_set, eqInt, eqStr, eqNil, isNon, Option.map_some, List.length_cons, List.length_nil, List.length_map, if_true, if_false, Bool.false_eq_true, Bool.not_true, Bool.not_false, reduceIte, decide_true, decide_false, Bool.and_self, Bool.true_and] at h ⊢; exact h
        · rw [Bool.not_eq_true] at q
          simp -implicitDefEqProofs only [q, wSs, wS, wE, wA, wP, wI, wIfs, tgNm, tgTup, tgNil, tgCons, getS, setS, optW_some, conD, negD, wip0, wipC, List.set_cons_zero, List.set_cons_succ, cmpLt, cmpLe, cmpGt, cmpGe, cmpEq, cmpNe, cmpIs, cmpIsN, cmpIn, cmpNotIn, binAdd, binSub, lenTup, lenLst, biMax, biMin, biInt, biIntB, tupTup, tupLst, lstTup, lstLst, ixT, ixL, slTup, slLst, atI0, atI1, atI2, atI3, atI4, atI5, isiTup, isiLst, seqTup, seqLst, lstOfLst, gOfTup, gOfLst, lstOfS, seqOfS, lenS, tupS, lstS, ixS, Sto.set_same, Sto.set_set, eqInt, eqStr, eqNil, isNon, Option.map_some, List.length_cons, List.length_nil, List.length_map, if_true, if_false, Bool.false_eq_true, Bool.not_true, Bool.not_false, reduceIte, decide_true, decide_false, Bool.and_self, Bool.false_and] at h ⊢; exact h
      | _ => exact h
    | _ => exact h
theorem c_after_deed {d : D} {line : List Int} {s l p : Int} {S : Sto} {R : QD} {E : XP} (hd : ok0 20 d = true) (hl : line.length ≤ 1000) (h : R (inD' (afterDeed d (line, s, l, p))) S) : (Γ 17).sp [d, iv line, .int s, .int l, .int p] S R E := ⟨_, _, _, _, _, rfl, hd, hl, h⟩
theorem seat_word {w : Str} {line : List Int} {s l : Int} (hw : w = kG ∨ w = kS ∨ w = kP) : (seat w line s l).1.1 = w := by
  rcases hw with rfl | rfl | rfl
  · rfl
  · unfold seat
    rw [if_neg (by decide +kernel), if_pos rfl]
  · unfold seat
    rw [if_neg (by decide +kernel), if_neg (by decide +kernel)]
theorem may_line {w : Str} {line : List Int} {s l p : Int} (hw : w = kG ∨ w = kS ∨ w = kP) (h : mayDo w line l s p = true) : w ≠ kS → line ≠ [] := by
  rintro hs rfl
  rcases hw with rfl | rfl | rfl
  · simp [mayDo, canDo, front] at h
  · exact hs rfl
  · unfold mayDo canDo front at h
    rw [if_neg (by decide +kernel), if_neg (by decide +kernel), if_pos rfl] at h
    simp at h
    omega
theorem p_after_deed : Kept sp_after_deed b_after_deed 10 := by
  rintro ds S R E ⟨d, line, s, l, p, rfl, hd, hl, h⟩
  show wSs Γ Ct E b_after_deed (KR R) [some d, some (iv line), some (.int s), some (.int l), some (.int p), none, none, none, none, none] S
  simp -implicitDefEqProofs only [b_after_deed, wSs, wS, wE, wA, wP, wI, wIfs, tgNm, tgTup, tgNil, tgCons, getS, setS, optW_some, conD, negD, wip0, wipC, List.set_cons_zero, List.set_cons_succ, cmpLt, cmpLe, cmpGt, cmpGe, cmpEq, cmpNe, cmpIs, cmpIsN, cmpIn, cmpNotIn, binAdd, binSub, lenTup, lenLst, biMax, biMin, biInt, biIntB, tupTup, tupLst, lstTup, lstLst, ixT, ixL, slTup, slLst, atI0, atI1, atI2, atI3, atI4, atI5, isiTup, isiLst, seqTup, seqLst, lstOfLst, gOfTup, gOfLst, lstOfS, seqOfS, lenS, tupS, lstS, ixS, Sto.set_same, Sto.set_set, eqInt, eqStr, eqNil, isNon, Option.map_some, List.length_cons, List.length_nil, List.length_map, Ct]
  refine forW_inv (fun ds st S' => S' = S ∧ (∃ a b c e f, st = [some d, some (iv line), some (.int s), some (.int l), some (.int p), a, b, c, e, f]) ∧ ∃ ws : List Str, ds = ws.map D.str ∧ (∀ w ∈ ws, w = kG ∨ w = kS ∨ w = kP) ∧ R (inD' (afterDeedL d line s l p ws)) S) ?_ ?_ ?_
  · rintro d' ds st S' nxt ⟨rfl, ⟨a, b, c, e, f, rfl⟩, ws, hws, hw, hR⟩ hn
    cases ws with
    | nil => cases hws
    | cons w ws =>
      rw [List.map_cons] at hws
      cases hws
      have hw1 := hw w (List.mem_cons_self ..)
      refine ⟨trivial, ?_⟩
      try simp -implicitDefEqProofs only [wSs, wS, wE, wA, wP, wI, wIfs, tgNm, tgTup, tgNil, tgCons, getS, setS, optW_some, conD, negD, wip0, wipC, List.set_cons_zero, List.set_cons_succ, cmpLt, cmpLe, cmpGt, cmpGe, cmpEq, cmpNe, cmpIs, cmpIsN, cmpIn, cmpNotIn, binAdd, binSub, lenTup, lenLst, biMax, biMin, biInt, biIntB, tupTup, tupLst, lstTup, lstLst, ixT, ixL, slTup, slLst, atI0, atI1, atI2, atI3, atI4, atI5, isiTup, isiLst, seqTup, seqLst, lstOfLst, gOfTup, gOfLst, lstOfS, seqOfS, lenS, tupS, lstS, ixS, Sto.set_same, Sto.set_set, eqInt, eqStr, eqNil, isNon, Option.map_some, List.length_cons, List.length_nil, List.length_map]
      refine c_may_be_done ?_
      rw [afterDeedL] at hR
      by_cases q : mayDo w line l s p = true
      · simp -implicitDefEqProofs only [q, if_true, if_false, Bool.false_eq_true, Bool.not_true, Bool.not_false, reduceIte, decide_true, decide_false, Bool.and_self]
        refine c_seated (may_line hw1 q) hl ?_
        simp -implicitDefEqProofs only [seatD, wSs, wS, wE, wA, wP, wI, wIfs, tgNm, tgTup, tgNil, tgCons, getS, setS, optW_some, conD, negD, wip0, wipC, List.set_cons_zero, List.set_cons_succ, cmpLt, cmpLe, cmpGt, cmpGe, cmpEq, cmpNe, cmpIs, cmpIsN, cmpIn, cmpNotIn, binAdd, binSub, lenTup, lenLst, biMax, biMin, biInt, biIntB, tupTup, tupLst, lstTup, lstLst, ixT, ixL, slTup, slLst, atI0, atI1, atI2, atI3, atI4, atI5, isiTup, isiLst, seqTup, seqLst, lstOfLst, gOfTup, gOfLst, lstOfS, seqOfS, lenS, tupS, lstS, ixS, Sto.set_same, Sto.set_set, eqInt, eqStr, eqNil, isNon, Option.map_some, List.length_cons, List.length_nil, List.length_map]
        refine c_is_done hd (by rw [seat_word hw1]; exact hw1) ?_
        by_cases z : isDone d (seat w line s l).1 = true
        · rw [if_pos (by rw [q, z]; rfl)] at hR
          simp -implicitDefEqProofs only [z, wSs, wS, wE, wA, wP, wI, wIfs, tgNm, tgTup, tgNil, tgCons, getS, setS, optW_some, conD, negD, wip0, wipC, List.set_cons_zero, List.set_cons_succ, cmpLt, cmpLe, cmpGt, cmpGe, cmpEq, cmpNe, cmpIs, cmpIsN, cmpIn, cmpNotIn, binAdd, binSub, lenTup, lenLst, biMax, biMin, biInt, biIntB, tupTup, tupLst, lstTup, lstLst, ixT, ixL, slTup, slLst, atI0, atI1, atI2, atI3, atI4, atI5, isiTup, isiLst, seqTup, seqLst, lstOfLst, gOfTup, gOfLst, lstOfS, seqOfS, lenS, tupS, lstS, ixS, Sto.set_same, Sto.set_set, eqInt, eqStr, eqNil, isNon, Option.map_some, List.length_cons, List.length_nil, List.length_map, if_true, if_false, Bool.false_eq_true, Bool.not_true, Bool.not_false, reduceIte, decide_true, decide_false, Bool.and_self]
          by_cases hp : w = kP
          · simp -implicitDefEqProofs only [hp, wSs, wS, wE, wA, wP, wI, wIfs, tgNm, tgTup, tgNil, tgCons, getS, setS, optW_some, conD, negD, wip0, wipC, List.set_cons_zero, List.set_cons_succ, cmpLt, cmpLe, cmpGt, cmpGe, cmpEq, cmpNe, cmpIs, cmpIsN, cmpIn, cmpNotIn, binAdd, binSub, lenTup, lenLst, biMax, biMin, biInt, biIntB, tupTup, tupLst, lstTup, lstLst, ixT, ixL, slTup, slLst, atI0, atI1, atI2, atI3, atI4, atI5, isiTup, isiLst, seqTup, seqLst, lstOfLst, gOfTup, gOfLst, lstOfS, seqOfS, lenS, tupS, lstS, ixS, Sto.set_same, Sto.set_set, eqInt, eqStr, eqNil, isNon, Option.map_some, List.length_cons, List.length_nil, List.length_map, if_true, if_false, Bool.false_eq_true, Bool.not_true, Bool.not_false, reduceIte, decide_true, decide_false, Bool.and_self] at hR ⊢; exact hR
          · simp -implicitDefEqProofs only [hp, wSs, wS, wE, wA, wP, wI, wIfs, tgNm, tgTup, tgNil, tgCons, getS, setS, optW_some, conD, negD, wip0, wipC, List.set_cons_zero, List.set_cons_succ, cmpLt, cmpLe, cmpGt, cmpGe, cmpEq, cmpNe, cmpIs, cmpIsN, cmpIn, cmpNotIn, binAdd, binSub, lenTup, lenLst, biMax, biMin, biInt, biIntB, tupTup, tupLst, lstTup, lstLst, ixT, ixL, slTup, slLst, atI0, atI1, atI2, atI3, atI4, atI5, isiTup, isiLst, seqTup, seqLst, lstOfLst, gOfTup, gOfLst, lstOfS, seqOfS, lenS, tupS, lstS, ixS, Sto.set_same, Sto.set_set, eqInt, eqStr, eqNil, isNon, Option.map_some, List.length_cons, List.length_nil, List.length_map, if_true, if_false, Bool.false_eq_true, Bool.not_true, Bool.not_false, reduceIte, decide_true, decide_false, Bool.and_self] at hR ⊢; exact hR
        · rw [if_neg (by rw [q]; simpa using z)] at hR
          rw [Bool.not_eq_true] at z
          simp -implicitDefEqProofs only [z, if_true, if_false, Bool.false_eq_true, Bool.not_true, Bool.not_false, reduceIte, decide_true, decide_false, Bool.and_self]
          exact hn _ _ ⟨rfl, ⟨_, _, _, _, _, rfl⟩, ws, rfl, fun w h => hw w (List.mem_cons_of_mem _ h), hR⟩
      · rw [if_neg (by simp [q])] at hR
        rw [Bool.not_eq_true] at q
        simp -implicitDefEqProofs only [q, if_true, if_false, Bool.false_eq_true, Bool.not_true, Bool.not_false, reduceIte, decide_true, decide_false, Bool.and_self]
        exact hn _ _ ⟨rfl, ⟨_, _, _, _, _, rfl⟩, ws, rfl, fun w h => hw w (List.mem_cons_of_mem _ h), hR⟩
  · rintro st S' ⟨rfl, ⟨a, b, c, e, f, rfl⟩, ws, hws, hw, hR⟩
    cases ws with
    | nil => exact ⟨trivial, hR⟩
    | cons => cases hws
  · exact ⟨rfl, ⟨_, _, _, _, _, rfl⟩, [kG, kS, kP], rfl, by simp, h⟩
theorem c_after_deeds {u : Su} {t : Nat} {p : Posn} {c : Com} {d : D} {S : Sto} {R : QD} {E : XP} (h1 : t < u.seats.length) (h2 : ok0 21 d = true) (h3 : p.1.length ≤ 1000) (h4 : c.1.length ≤ 1000) (h5 : u.rg ≤ 1000) (h : R (stepD (afterDeeds u t p c d)) S) : (Γ 20).sp [u.d, .int (t : Int), posD p, comD c, d] S R E := ⟨_, _, _, _, _, rfl, h1, h2, h3, h4, h5, h⟩
theorem after_len {d : D} {x y : In} (hx : x.1.length ≤ 1000) (h : afterDeed d x = some y) : y.1.length ≤ 1000 := by
  obtain ⟨line, s, l, p⟩ := x
  have go : ∀ ws : List Str, (∀ w ∈ ws, w = kG ∨ w = kS ∨ w = kP) → afterDeedL d line s l p ws = some y → y.1.length ≤ 1000 := by
    intro ws
    induction ws with
    | nil => intro _ h; cases h
    | cons w ws ih =>
      intro hw h
      rw [afterDeedL] at h
      split at h
      · rename_i q
        cases h
        have := may_line (hw w (List.mem_cons_self ..)) ((Bool.and_eq_true _ _).mp q).1
        rcases hw w (List.mem_cons_self ..) with rfl | rfl | rfl
        · show line.tail.length ≤ _
          simp at hx ⊢; omega
        · unfold seat
          rw [if_neg (by decide +kernel), if_pos rfl]
          exact hx
        · unfold seat
          rw [if_neg (by decide +kernel), if_neg (by decide +kernel)]
          have := this (by decide +kernel)
          cases line with
          | nil => exact absurd rfl this
          | cons a line => exact hx
      · exact ih (fun w h => hw w (List.mem_cons_of_mem _ h)) h
  exact go _ (by simp) h
theorem p_after_deeds : Kept sp_after_deeds b_after_deeds 11 := by
  rintro ds S R E ⟨u, t, p, c, d, rfl, h1, h2, h3, h4, h5, h⟩
  show wSs Γ Ct E b_after_deeds (KR R) [some u.d, some (.int (t : Int)), some (posD p), some (comD c), some d, none, none, none, none, none, none] S
  simp -implicitDefEqProofs only [b_after_deeds, wSs, wS, wE, wA, wP, wI, wIfs, tgNm, tgTup, tgNil, tgCons, getS, setS, optW_some, conD, negD, wip0, wipC, List.set_cons_zero, List.set_cons_succ, cmpLt, cmpLe, cmpGt, cmpGe, cmpEq, cmpNe, cmpIs, cmpIsN, cmpIn, cmpNotIn, binAdd, binSub, lenTup, lenLst, biMax, biMin, biInt, biIntB, tupTup, tupLst, lstTup, lstLst, ixT, ixL, slTup, slLst, atI0, atI1, atI2, atI3, atI4, atI5, isiTup, isiLst, seqTup, seqLst, lstOfLst, gOfTup, gOfLst, lstOfS, seqOfS, lenS, tupS, lstS, ixS, Sto.set_same, Sto.set_set, eqInt, eqStr, eqNil, isNon, Option.map_some, List.length_cons, List.length_nil, List.length_map, isi_tuple (ok0_val h2)]
  cases d with
  | tup ds =>
    simp -implicitDefEqProofs only [isTupD, wSs, wS, wE, wA, wP, wI, wIfs, tgNm, tgTup, tgNil, tgCons, getS, setS, optW_some, conD, negD, wip0, wipC, List.set_cons_zero, List.set_cons_succ, cmpLt, cmpLe, cmpGt, cmpGe, cmpEq, cmpNe, cmpIs, cmpIsN, cmpIn, cmpNotIn, binAdd, binSub, lenTup, lenLst, biMax, biMin, biInt, biIntB, tupTup, tupLst, lstTup, lstLst, ixT, ixL, slTup, slLst, atI0, atI1, atI2, atI3, atI4, atI5, isiTup, isiLst, seqTup, seqLst, lstOfLst, gOfTup, gOfLst, lstOfS, seqOfS, lenS, tupS, lstS, ixS, Sto.set_same, Sto.set_set, eqInt, eqStr, eqNil, isNon, Option.map_some, List.length_cons, List.length_nil, List.length_map, if_true, if_false, Bool.false_eq_true, Bool.not_true, Bool.not_false, reduceIte, decide_true, decide_false, Bool.and_self, posD]
    have hu' : u.d = .tup [iv u.seats, iv u.sizes, .tup [.int u.rg, .int u.rs], .tup [.int u.cg, .int u.cs]] := rfl
    refine c_let_in h3 h4 ?_
    have e1 : ∀ (a b c : D), cutD [a, b, c] none (some 2) = [a, b] := fun _ _ _ => rfl
    rw [hu']
    simp -implicitDefEqProofs only [letD, wSs, wS, wE, wA, wP, wI, wIfs, tgNm, tgTup, tgNil, tgCons, getS, setS, optW_some, conD, negD, wip0, wipC, List.set_cons_zero, List.set_cons_succ, cmpLt, cmpLe, cmpGt, cmpGe, cmpEq, cmpNe, cmpIs, cmpIsN, cmpIn, cmpNotIn, binAdd, binSub, lenTup, lenLst, biMax, biMin, biInt, biIntB, tupTup, tupLst, lstTup, lstLst, ixT, ixL, slTup, slLst, atI0, atI1, atI2, atI3, atI4, atI5, isiTup, isiLst, seqTup, seqLst, lstOfLst, gOfTup, gOfLst, lstOfS, seqOfS, lenS, tupS, lstS, ixS, Sto.set_same, Sto.set_set, eqInt, eqStr, eqNil, isNon, Option.map_some, List.length_cons, List.length_nil, List.length_map, e1, iv]
    have e2 : u.seats[t]? = some u.seats[t] := List.getElem?_eq_getElem h1
    rw [at_map e2]
    try simp -implicitDefEqProofs only [wSs, wS, wE, wA, wP, wI, wIfs, tgNm, tgTup, tgNil, tgCons, getS, setS, optW_some, conD, negD, wip0, wipC, List.set_cons_zero, List.set_cons_succ, cmpLt, cmpLe, cmpGt, cmpGe, cmpEq, cmpNe, cmpIs, cmpIsN, cmpIn, cmpNotIn, binAdd, binSub, lenTup, lenLst, biMax, biMin, biInt, biIntB, tupTup, tupLst, lstTup, lstLst, ixT, ixL, slTup, slLst, atI0, atI1, atI2, atI3, atI4, atI5, isiTup, isiLst, seqTup, seqLst, lstOfLst, gOfTup, gOfLst, lstOfS, seqOfS, lenS, tupS, lstS, ixS, Sto.set_same, Sto.set_set, eqInt, eqStr, eqNil, isNon, Option.map_some, List.length_cons, List.length_nil, List.length_map]
    have e3 : u.seats[t] = seatAt u t := by
      unfold seatAt
      rw [Nat.mod_eq_of_lt h1, List.getD_eq_getElem?_getD, e2]; rfl
    rw [e3]
    have e4 : (letIn u p.1 p.2.1 c).1.length ≤ 1000 := by
      unfold letIn
      simp -implicitDefEqProofs only [List.length_take]
      omega
    have hds : ∀ x ∈ ds, ok0 20 x = true := ok0s_all.mp h2
    refine forW_inv (fun ds' st S' => S' = S ∧ (∀ x ∈ ds', ok0 20 x = true) ∧ ∃ (x : In) (y : Option D) (f g h i : Option D), st = [some u.d, some (.int (t : Int)), some (posD p), some (comD c), some (.tup ds), f, g, some (inD' (some x)), y, h, i] ∧ x.1.length ≤ 1000 ∧ afterAll ds' x = afterAll ds (startIn u t p c)) ?_ ?_ ?_
    · rintro d' ds' st S' nxt ⟨rfl, hok, x, y, f, g, h', i, rfl, hx, hA⟩ hn
      refine ⟨trivial, ?_⟩
      simp -implicitDefEqProofs only [wSs, wS, wE, wA, wP, wI, wIfs, tgNm, tgTup, tgNil, tgCons, getS, setS, optW_some, conD, negD, wip0, wipC, List.set_cons_zero, List.set_cons_succ, cmpLt, cmpLe, cmpGt, cmpGe, cmpEq, cmpNe, cmpIs, cmpIsN, cmpIn, cmpNotIn, binAdd, binSub, lenTup, lenLst, biMax, biMin, biInt, biIntB, tupTup, tupLst, lstTup, lstLst, ixT, ixL, slTup, slLst, atI0, atI1, atI2, atI3, atI4, atI5, isiTup, isiLst, seqTup, seqLst, lstOfLst, gOfTup, gOfLst, lstOfS, seqOfS, lenS, tupS, lstS, ixS, Sto.set_same, Sto.set_set, eqInt, eqStr, eqNil, isNon, Option.map_some, List.length_cons, List.length_nil, List.length_map, inD', iv]
      refine ⟨rfl, ?_⟩
      refine c_after_deed (hok d' (List.mem_cons_self ..)) hx ?_
      rw [afterAll] at hA
      cases q : afterDeed d' (x.1, x.2.1, x.2.2.1, x.2.2.2) with
      | none =>
        rw [q] at hA
        simp -implicitDefEqProofs only [wSs, wS, wE, wA, wP, wI, wIfs, tgNm, tgTup, tgNil, tgCons, getS, setS, optW_some, conD, negD, wip0, wipC, List.set_cons_zero, List.set_cons_succ, cmpLt, cmpLe, cmpGt, cmpGe, cmpEq, cmpNe, cmpIs, cmpIsN, cmpIn, cmpNotIn, binAdd, binSub, lenTup, lenLst, biMax, biMin, biInt, biIntB, tupTup, tupLst, lstTup, lstLst, ixT, ixL, slTup, slLst, atI0, atI1, atI2, atI3, atI4, atI5, isiTup, isiLst, seqTup, seqLst, lstOfLst, gOfTup, gOfLst, lstOfS, seqOfS, lenS, tupS, lstS, ixS, Sto.set_same, Sto.set_set, eqInt, eqStr, eqNil, isNon, Option.map_some, List.length_cons, List.length_nil, List.length_map, inD', if_true, if_false, Bool.false_eq_true, Bool.not_true, Bool.not_false, reduceIte, decide_true, decide_false, Bool.and_self]
        rw [afterDeeds, ← hA] at h
        exact h
      | some x2 =>
        rw [q] at hA
        simp -implicitDefEqProofs only [wSs, wS, wE, wA, wP, wI, wIfs, tgNm, tgTup, tgNil, tgCons, getS, setS, optW_some, conD, negD, wip0, wipC, List.set_cons_zero, List.set_cons_succ, cmpLt, cmpLe, cmpGt, cmpGe, cmpEq, cmpNe, cmpIs, cmpIsN, cmpIn, cmpNotIn, binAdd, binSub, lenTup, lenLst, biMax, biMin, biInt, biIntB, tupTup, tupLst, lstTup, lstLst, ixT, ixL, slTup, slLst, atI0, atI1, atI2, atI3, atI4, atI5, isiTup, isiLst, seqTup, seqLst, lstOfLst, gOfTup, gOfLst, lstOfS, seqOfS, lenS, tupS, lstS, ixS, Sto.set_same, Sto.set_set, eqInt, eqStr, eqNil, isNon, Option.map_some, List.length_cons, List.length_nil, List.length_map, inD', if_true, if_false, Bool.false_eq_true, Bool.not_true, Bool.not_false, reduceIte, decide_true, decide_false, Bool.and_self]
        exact hn _ _ ⟨rfl, fun x hx => hok x (List.mem_cons_of_mem _ hx), x2, _, _, _, _, _, rfl, after_len hx q, hA⟩
    · rintro st S' ⟨rfl, hok, x, y, f, g, h', i, rfl, hx, hA⟩
      refine ⟨trivial, ?_⟩
      rw [afterAll] at hA
      rw [afterDeeds, ← hA] at h
      simp -implicitDefEqProofs only [wSs, wS, wE, wA, wP, wI, wIfs, tgNm, tgTup, tgNil, tgCons, getS, setS, optW_some, conD, negD, wip0, wipC, List.set_cons_zero, List.set_cons_succ, cmpLt, cmpLe, cmpGt, cmpGe, cmpEq, cmpNe, cmpIs, cmpIsN, cmpIn, cmpNotIn, binAdd, binSub, lenTup, lenLst, biMax, biMin, biInt, biIntB, tupTup, tupLst, lstTup, lstLst, ixT, ixL, slTup, slLst, atI0, atI1, atI2, atI3, atI4, atI5, isiTup, isiLst, seqTup, seqLst, lstOfLst, gOfTup, gOfLst, lstOfS, seqOfS, lenS, tupS, lstS, ixS, Sto.set_same, Sto.set_set, eqInt, eqStr, eqNil, isNon, Option.map_some, List.length_cons, List.length_nil, List.length_map, inD', iv]
      by_cases q : x.1 = []
      · by_cases q2 : x.2.1 = 0
        · simp -implicitDefEqProofs only [q, q2, lostOf, stepD, posD, iv, List.map_nil, and_self, wSs, wS, wE, wA, wP, wI, wIfs, tgNm, tgTup, tgNil, tgCons, getS, setS, optW_some, conD, negD, wip0, wipC, List.set_cons_zero, List.set_cons_succ, cmpLt, cmpLe, cmpGt, cmpGe, cmpEq, cmpNe, cmpIs, cmpIsN, cmpIn, cmpNotIn, binAdd, binSub, lenTup, lenLst, biMax, biMin, biInt, biIntB, tupTup, tupLst, lstTup, lstLst, ixT, ixL, slTup, slLst, atI0, atI1, atI2, atI3, atI4, atI5, isiTup, isiLst, seqTup, seqLst, lstOfLst, gOfTup, gOfLst, lstOfS, seqOfS, lenS, tupS, lstS, ixS, Sto.set_same, Sto.set_set, eqInt, eqStr, eqNil, isNon, Option.map_some, List.length_cons, List.length_nil, List.length_map, if_true, if_false, Bool.false_eq_true, Bool.not_true, Bool.not_false, reduceIte, decide_true, decide_false, Bool.and_self] at h ⊢
          exact h
        · simp -implicitDefEqProofs only [q, q2, lostOf, stepD, posD, iv, List.map_nil, and_false, and_self, wSs, wS, wE, wA, wP, wI, wIfs, tgNm, tgTup, tgNil, tgCons, getS, setS, optW_some, conD, negD, wip0, wipC, List.set_cons_zero, List.set_cons_succ, cmpLt, cmpLe, cmpGt, cmpGe, cmpEq, cmpNe, cmpIs, cmpIsN, cmpIn, cmpNotIn, binAdd, binSub, lenTup, lenLst, biMax, biMin, biInt, biIntB, tupTup, tupLst, lstTup, lstLst, ixT, ixL, slTup, slLst, atI0, atI1, atI2, atI3, atI4, atI5, isiTup, isiLst, seqTup, seqLst, lstOfLst, gOfTup, gOfLst, lstOfS, seqOfS, lenS, tupS, lstS, ixS, Sto.set_same, Sto.set_set, eqInt, eqStr, eqNil, isNon, Option.map_some, List.length_cons, List.length_nil, List.length_map, if_true, if_false, Bool.false_eq_true, Bool.not_true, Bool.not_false, reduceIte, decide_true, decide_false, Bool.and_self] at h ⊢
          exact h
      · simp -implicitDefEqProofs only [q, lostOf, stepD, posD, iv, false_and, wSs, wS, wE, wA, wP, wI, wIfs, tgNm, tgTup, tgNil, tgCons, getS, setS, optW_some, conD, negD, wip0, wipC, List.set_cons_zero, List.set_cons_succ, cmpLt, cmpLe, cmpGt, cmpGe, cmpEq, cmpNe, cmpIs, cmpIsN, cmpIn, cmpNotIn, binAdd, binSub, lenTup, lenLst, biMax, biMin, biInt, biIntB, tupTup, tupLst, lstTup, lstLst, ixT, ixL, slTup, slLst, atI0, atI1, atI2, atI3, atI4, atI5, isiTup, isiLst, seqTup, seqLst, lstOfLst, gOfTup, gOfLst, lstOfS, seqOfS, lenS, tupS, lstS, ixS, Sto.set_same, Sto.set_set, eqInt, eqStr, eqNil, isNon, Option.map_some, List.length_cons, List.length_nil, List.length_map, if_true, if_false, Bool.false_eq_true, Bool.not_true, Bool.not_false, reduceIte, decide_true, decide_false, Bool.and_self] at h ⊢
        exact h
    · exact ⟨rfl, hds, startIn u t p c, _, _, _, _, _, rfl, e4, rfl⟩
  | _ => exact h
end FC
namespace FC
open PySem PySem.Spec PyProof.Rows DL
theorem c_deeds_lose {u : Su} {r : List Com} {d : D} {p : Int} {S : Sto} {R : QD} {E : XP} (hd : ok0 22 d = true) (hu : u.Ok) (hc : ∀ c ∈ r, ComOk u c) (hr : r.length ≤ 16) (hp : 0 ≤ p) (h : R (optI (deedsLose u r d p)) S) : (Γ 32).sp [u.d, rowD r, d, .int p] S R E := ⟨_, _, _, _, rfl, hd, hu, hc, hr, hp, h⟩
theorem letIn_len {u : Su} {line : List Int} {s : Int} {c : Com} (h : (u.rg ≤ 3)) (hl : line.length ≤ 1000) : (letIn u line s c).1.length ≤ 1000 := by
  unfold letIn
  simp -implicitDefEqProofs only [List.length_take]
  omega
theorem afterAll_len {ds : List D} : ∀ {x y : In}, x.1.length ≤ 1000 → afterAll ds x = some y → y.1.length ≤ 1000 := by
  induction ds with
  | nil => intro x y hx h; cases h; exact hx
  | cons d ds ih =>
    intro x y hx h
    rw [afterAll] at h
    split at h
    · rename_i z q; exact ih (after_len hx q) h
    · cases h
theorem afterDeeds_len {u : Su} {t : Nat} {p : Posn} {c : Com} {d : D} {y : Int × Posn} (h3 : u.rg ≤ 3) (hp : p.1.length ≤ 1000) (h : afterDeeds u t p c d = some y) : y.2.1.length ≤ 1000 := by
  unfold afterDeeds at h
  split at h
  · split at h
    · rename_i x q
      cases h
      exact afterAll_len (show (startIn u t p c).1.length ≤ 1000 from letIn_len (s := p.2.1) h3 hp) q
    · cases h
  · cases h
theorem seatAt_mod {u : Su} {t : Nat} : seatAt u (t % u.seats.length) = seatAt u t := by unfold seatAt; rw [Nat.mod_mod]
theorem afterDeeds_mod {u : Su} {t : Nat} {p : Posn} {c : Com} {d : D} : afterDeeds u (t % u.seats.length) p c d = afterDeeds u t p c d := by
  unfold afterDeeds startIn; simp -implicitDefEqProofs only [seatAt_mod]
theorem p_deeds_lose : Kept sp_deeds_lose b_deeds_lose 9 := by
  rintro ds S R E ⟨u, r, d, p, rfl, hd, hu, hc, hr, hp, h⟩
  show wSs Γ Ct E b_deeds_lose (KR R) [some u.d, some (rowD r), some d, some (.int p), none, none, none, none, none] S
  simp -implicitDefEqProofs only [b_deeds_lose, wSs, wS, wE, wA, wP, wI, wIfs, tgNm, tgTup, tgNil, tgCons, getS, setS, optW_some, conD, negD, wip0, wipC, List.set_cons_zero, List.set_cons_succ, cmpLt, cmpLe, cmpGt, cmpGe, cmpEq, cmpNe, cmpIs, cmpIsN, cmpIn, cmpNotIn, binAdd, binSub, lenTup, lenLst, biMax, biMin, biInt, biIntB, tupTup, tupLst, lstTup, lstLst, ixT, ixL, slTup, slLst, atI0, atI1, atI2, atI3, atI4, atI5, isiTup, isiLst, seqTup, seqLst, lstOfLst, gOfTup, gOfLst, lstOfS, seqOfS, lenS, tupS, lstS, ixS, Sto.set_same, Sto.set_set, eqInt, eqStr, eqNil, isNon, Option.map_some, List.length_cons, List.length_nil, List.length_map, isi_list (ok0_val hd)]
  refine c_check_ahead hu hc hr ?_
  refine c_check_count hp ?_
  have hseats : 0 < u.seats.length := hu.n1
  cases d with
  | lst ds =>
    have hds : ∀ x ∈ ds, ok0 21 x = true := ok0s_all.mp hd
    simp -implicitDefEqProofs only [isLstD, wSs, wS, wE, wA, wP, wI, wIfs, tgNm, tgTup, tgNil, tgCons, getS, setS, optW_some, conD, negD, wip0, wipC, List.set_cons_zero, List.set_cons_succ, cmpLt, cmpLe, cmpGt, cmpGe, cmpEq, cmpNe, cmpIs, cmpIsN, cmpIn, cmpNotIn, binAdd, binSub, lenTup, lenLst, biMax, biMin, biInt, biIntB, tupTup, tupLst, lstTup, lstLst, ixT, ixL, slTup, slLst, atI0, atI1, atI2, atI3, atI4, atI5, isiTup, isiLst, seqTup, seqLst, lstOfLst, gOfTup, gOfLst, lstOfS, seqOfS, lenS, tupS, lstS, ixS, Sto.set_same, Sto.set_set, eqInt, eqStr, eqNil, isNon, Option.map_some, List.length_cons, List.length_nil, List.length_map, if_true, if_false, Bool.false_eq_true, Bool.not_true, Bool.not_false, reduceIte, decide_true, decide_false, Bool.and_self, rowD]
    rw [deedsLose] at h
    by_cases q : ds.length = r.length
    · rw [if_pos q] at h
      have e1 : decide ((ds.length : Int) = (r.length : Int)) = true := decide_eq_true (by omega)
      simp -implicitDefEqProofs only [e1, wSs, wS, wE, wA, wP, wI, wIfs, tgNm, tgTup, tgNil, tgCons, getS, setS, optW_some, conD, negD, wip0, wipC, List.set_cons_zero, List.set_cons_succ, cmpLt, cmpLe, cmpGt, cmpGe, cmpEq, cmpNe, cmpIs, cmpIsN, cmpIn, cmpNotIn, binAdd, binSub, lenTup, lenLst, biMax, biMin, biInt, biIntB, tupTup, tupLst, lstTup, lstLst, ixT, ixL, slTup, slLst, atI0, atI1, atI2, atI3, atI4, atI5, isiTup, isiLst, seqTup, seqLst, lstOfLst, gOfTup, gOfLst, lstOfS, seqOfS, lenS, tupS, lstS, ixS, Sto.set_same, Sto.set_set, eqInt, eqStr, eqNil, isNon, Option.map_some, List.length_cons, List.length_nil, List.length_map, if_true, if_false, Bool.false_eq_true, Bool.not_true, Bool.not_false, reduceIte, decide_true, decide_false, Bool.and_self]
      rw [enum_map]
      refine forW_inv (fun ds' st S' => S' = S ∧ ∃ (t : Nat) (cs : List Com) (n : Int) (pos : Posn) (y1 y2 y3 : Option D), ds' = (cs.zipIdx t).map (fun p => D.tup [.int (p.2 : Nat), comD p.1]) ∧ st = [some u.d, some (.lst (r.map comD)), some (.lst ds), some (.int p), some (.int n), some (posD pos), y1, y2, y3] ∧
        (∀ c ∈ cs, ComOk u c) ∧ t + cs.length = ds.length ∧ pos.1.length ≤ 1000 ∧ loseAll u t cs (ds.drop t) (n, pos) = loseAll u 0 r ds (0, [], 0, p)) ?_ ?_ ?_
      · rintro d' ds' st S' nxt ⟨rfl, t, cs, n, pos, y1, y2, y3, hds', rfl, hcs, hlen, hpl, hA⟩ hn
        cases cs with
        | nil => cases hds'
        | cons c cs =>
          simp -implicitDefEqProofs only [List.zipIdx_cons, List.map_cons, List.cons.injEq] at hds'
          obtain ⟨rfl, rfl⟩ := hds'
          refine ⟨trivial, ?_⟩
          have ht : t < ds.length := by simp at hlen; omega
          have hu' : u.d = .tup [iv u.seats, iv u.sizes, .tup [.int u.rg, .int u.rs], .tup [.int u.cg, .int u.cs]] := rfl
          have hcl : c.1.length ≤ 1000 := by have := (hcs c (List.mem_cons_self ..)).len; have := hu.cg2; omega
          have e2 : ds[t]? = some ds[t] := List.getElem?_eq_getElem ht
          have e3 : L2.atI ds (t : Int) = some ds[t] := by rw [at_nat ht, e2]
          simp -implicitDefEqProofs only [wSs, wS, wE, wA, wP, wI, wIfs, tgNm, tgTup, tgNil, tgCons, getS, setS, optW_some, conD, negD, wip0, wipC, List.set_cons_zero, List.set_cons_succ, cmpLt, cmpLe, cmpGt, cmpGe, cmpEq, cmpNe, cmpIs, cmpIsN, cmpIn, cmpNotIn, binAdd, binSub, lenTup, lenLst, biMax, biMin, biInt, biIntB, tupTup, tupLst, lstTup, lstLst, ixT, ixL, slTup, slLst, atI0, atI1, atI2, atI3, atI4, atI5, isiTup, isiLst, seqTup, seqLst, lstOfLst, gOfTup, gOfLst, lstOfS, seqOfS, lenS, tupS, lstS, ixS, Sto.set_same, Sto.set_set, eqInt, eqStr, eqNil, isNon, Option.map_some, List.length_cons, List.length_nil, List.length_map, e3]
          rw [hu']
          simp -implicitDefEqProofs only [wSs, wS, wE, wA, wP, wI, wIfs, tgNm, tgTup, tgNil, tgCons, getS, setS, optW_some, conD, negD, wip0, wipC, List.set_cons_zero, List.set_cons_succ, cmpLt, cmpLe, cmpGt, cmpGe, cmpEq, cmpNe, cmpIs, cmpIsN, cmpIn, cmpNotIn, binAdd, binSub, lenTup, lenLst, biMax, biMin, biInt, biIntB, tupTup, tupLst, lstTup, lstLst, ixT, ixL, slTup, slLst, atI0, atI1, atI2, atI3, atI4, atI5, isiTup, isiLst, seqTup, seqLst, lstOfLst, gOfTup, gOfLst, lstOfS, seqOfS, lenS, tupS, lstS, ixS, Sto.set_same, Sto.set_set, eqInt, eqStr, eqNil, isNon, Option.map_some, List.length_cons, List.length_nil, List.length_map, iv]
          rw [binMod (by omega)]
          try simp -implicitDefEqProofs only [wSs, wS, wE, wA, wP, wI, wIfs, tgNm, tgTup, tgNil, tgCons, getS, setS, optW_some, conD, negD, wip0, wipC, List.set_cons_zero, List.set_cons_succ, cmpLt, cmpLe, cmpGt, cmpGe, cmpEq, cmpNe, cmpIs, cmpIsN, cmpIn, cmpNotIn, binAdd, binSub, lenTup, lenLst, biMax, biMin, biInt, biIntB, tupTup, tupLst, lstTup, lstLst, ixT, ixL, slTup, slLst, atI0, atI1, atI2, atI3, atI4, atI5, isiTup, isiLst, seqTup, seqLst, lstOfLst, gOfTup, gOfLst, lstOfS, seqOfS, lenS, tupS, lstS, ixS, Sto.set_same, Sto.set_set, eqInt, eqStr, eqNil, isNon, Option.map_some, List.length_cons, List.length_nil, List.length_map]
          have hm : t % u.seats.length < u.seats.length := Nat.mod_lt _ hseats
          rw [show ((t : Int) % (u.seats.length : Int)) = ((t % u.seats.length : Nat) : Int) from rfl]
          refine c_after_deeds hm (hds _ (List.getElem_mem ht)) hpl hcl (by have := hu.rg2; omega) ?_
          rw [afterDeeds_mod]
          rw [List.drop_eq_getElem_cons ht, loseAll] at hA
          cases z : afterDeeds u t pos c ds[t] with
          | none =>
            rw [z] at hA
            simp -implicitDefEqProofs only [wSs, wS, wE, wA, wP, wI, wIfs, tgNm, tgTup, tgNil, tgCons, getS, setS, optW_some, conD, negD, wip0, wipC, List.set_cons_zero, List.set_cons_succ, cmpLt, cmpLe, cmpGt, cmpGe, cmpEq, cmpNe, cmpIs, cmpIsN, cmpIn, cmpNotIn, binAdd, binSub, lenTup, lenLst, biMax, biMin, biInt, biIntB, tupTup, tupLst, lstTup, lstLst, ixT, ixL, slTup, slLst, atI0, atI1, atI2, atI3, atI4, atI5, isiTup, isiLst, seqTup, seqLst, lstOfLst, gOfTup, gOfLst, lstOfS, seqOfS, lenS, tupS, lstS, ixS, Sto.set_same, Sto.set_set, eqInt, eqStr, eqNil, isNon, Option.map_some, List.length_cons, List.length_nil, List.length_map, stepD, if_true, if_false, Bool.false_eq_true, Bool.not_true, Bool.not_false, reduceIte, decide_true, decide_false, Bool.and_self]
            rw [← hA] at h
            exact h
          | some y =>
            rw [z] at hA
            simp -implicitDefEqProofs only [wSs, wS, wE, wA, wP, wI, wIfs, tgNm, tgTup, tgNil, tgCons, getS, setS, optW_some, conD, negD, wip0, wipC, List.set_cons_zero, List.set_cons_succ, cmpLt, cmpLe, cmpGt, cmpGe, cmpEq, cmpNe, cmpIs, cmpIsN, cmpIn, cmpNotIn, binAdd, binSub, lenTup, lenLst, biMax, biMin, biInt, biIntB, tupTup, tupLst, lstTup, lstLst, ixT, ixL, slTup, slLst, atI0, atI1, atI2, atI3, atI4, atI5, isiTup, isiLst, seqTup, seqLst, lstOfLst, gOfTup, gOfLst, lstOfS, seqOfS, lenS, tupS, lstS, ixS, Sto.set_same, Sto.set_set, eqInt, eqStr, eqNil, isNon, Option.map_some, List.length_cons, List.length_nil, List.length_map, stepD, if_true, if_false, Bool.false_eq_true, Bool.not_true, Bool.not_false, reduceIte, decide_true, decide_false, Bool.and_self]
            refine hn _ _ ⟨rfl, t + 1, cs, n + y.1, y.2, _, _, _, rfl, rfl, fun c h => hcs c (List.mem_cons_of_mem _ h), by simp at hlen; omega, afterDeeds_len (by have := hu.rg2; omega) hpl z, hA⟩
      · rintro st S' ⟨rfl, t, cs, n, pos, y1, y2, y3, hds', rfl, hcs, hlen, hpl, hA⟩
        cases cs with
        | nil =>
          refine ⟨trivial, ?_⟩
          try simp -implicitDefEqProofs only [wSs, wS, wE, wA, wP, wI, wIfs, tgNm, tgTup, tgNil, tgCons, getS, setS, optW_some, conD, negD, wip0, wipC, List.set_cons_zero, List.set_cons_succ, cmpLt, cmpLe, cmpGt, cmpGe, cmpEq, cmpNe, cmpIs, cmpIsN, cmpIn, cmpNotIn, binAdd, binSub, lenTup, lenLst, biMax, biMin, biInt, biIntB, tupTup, tupLst, lstTup, lstLst, ixT, ixL, slTup, slLst, atI0, atI1, atI2, atI3, atI4, atI5, isiTup, isiLst, seqTup, seqLst, lstOfLst, gOfTup, gOfLst, lstOfS, seqOfS, lenS, tupS, lstS, ixS, Sto.set_same, Sto.set_set, eqInt, eqStr, eqNil, isNon, Option.map_some, List.length_cons, List.length_nil, List.length_map]
          rw [loseAll] at hA
          rw [← hA] at h
          exact h
        | cons => cases hds'
      · exact ⟨rfl, 0, r, 0, ([], 0, p), _, _, _, rfl, rfl, hc, by omega, by simp, rfl⟩
    · rw [if_neg q] at h
      have e1 : decide ((ds.length : Int) = (r.length : Int)) = false := decide_eq_false (by omega)
      simp -implicitDefEqProofs only [e1, wSs, wS, wE, wA, wP, wI, wIfs, tgNm, tgTup, tgNil, tgCons, getS, setS, optW_some, conD, negD, wip0, wipC, List.set_cons_zero, List.set_cons_succ, cmpLt, cmpLe, cmpGt, cmpGe, cmpEq, cmpNe, cmpIs, cmpIsN, cmpIn, cmpNotIn, binAdd, binSub, lenTup, lenLst, biMax, biMin, biInt, biIntB, tupTup, tupLst, lstTup, lstLst, ixT, ixL, slTup, slLst, atI0, atI1, atI2, atI3, atI4, atI5, isiTup, isiLst, seqTup, seqLst, lstOfLst, gOfTup, gOfLst, lstOfS, seqOfS, lenS, tupS, lstS, ixS, Sto.set_same, Sto.set_set, eqInt, eqStr, eqNil, isNon, Option.map_some, List.length_cons, List.length_nil, List.length_map, if_true, if_false, Bool.false_eq_true, Bool.not_true, Bool.not_false, reduceIte, decide_true, decide_false, Bool.and_self]
      exact h
  | _ => exact h
end FC
namespace FC
open PySem PySem.Spec PyProof.Rows DL
theorem c_law_cell_at {xs : List Int} {k : Nat} {S : Sto} {R : QD} {E : XP} (h : ∀ i, R (.int i) S) : (Γ 26).sp [nnD xs, .int (k : Int)] S R E := ⟨_, _, rfl, h⟩
theorem p_law_cell_at : Kept sp_law_cell_at b_law_cell_at 2 := by
  rintro ds S R E ⟨xs, k, rfl, h⟩
  show wSs Γ Ct E b_law_cell_at (KR R) [some (.lst (xs.map D.int)), some (.int (k : Int))] S
  simp -implicitDefEqProofs only [b_law_cell_at, wSs, wS, wE, wA, wP, wI, wIfs, tgNm, tgTup, tgNil, tgCons, getS, setS, optW_some, conD, negD, wip0, wipC, List.set_cons_zero, List.set_cons_succ, cmpLt, cmpLe, cmpGt, cmpGe, cmpEq, cmpNe, cmpIs, cmpIsN, cmpIn, cmpNotIn, binAdd, binSub, lenTup, lenLst, biMax, biMin, biInt, biIntB, tupTup, tupLst, lstTup, lstLst, ixT, ixL, slTup, slLst, atI0, atI1, atI2, atI3, atI4, atI5, isiTup, isiLst, seqTup, seqLst, lstOfLst, gOfTup, gOfLst, lstOfS, seqOfS, lenS, tupS, lstS, ixS, Sto.set_same, Sto.set_set, eqInt, eqStr, eqNil, isNon, Option.map_some, List.length_cons, List.length_nil, List.length_map]
  by_cases q : k < xs.length
  · have e : decide ((k : Int) < (xs.length : Int)) = true := decide_eq_true (by omega)
    simp -implicitDefEqProofs only [e, at_map (List.getElem?_eq_getElem q), wSs, wS, wE, wA, wP, wI, wIfs, tgNm, tgTup, tgNil, tgCons, getS, setS, optW_some, conD, negD, wip0, wipC, List.set_cons_zero, List.set_cons_succ, cmpLt, cmpLe, cmpGt, cmpGe, cmpEq, cmpNe, cmpIs, cmpIsN, cmpIn, cmpNotIn, binAdd, binSub, lenTup, lenLst, biMax, biMin, biInt, biIntB, tupTup, tupLst, lstTup, lstLst, ixT, ixL, slTup, slLst, atI0, atI1, atI2, atI3, atI4, atI5, isiTup, isiLst, seqTup, seqLst, lstOfLst, gOfTup, gOfLst, lstOfS, seqOfS, lenS, tupS, lstS, ixS, Sto.set_same, Sto.set_set, eqInt, eqStr, eqNil, isNon, Option.map_some, List.length_cons, List.length_nil, List.length_map, if_true, if_false, Bool.false_eq_true, Bool.not_true, Bool.not_false, reduceIte, decide_true, decide_false, Bool.and_self]
    exact h _
  · have e : decide ((k : Int) < (xs.length : Int)) = false := decide_eq_false (by omega)
    simp -implicitDefEqProofs only [e, wSs, wS, wE, wA, wP, wI, wIfs, tgNm, tgTup, tgNil, tgCons, getS, setS, optW_some, conD, negD, wip0, wipC, List.set_cons_zero, List.set_cons_succ, cmpLt, cmpLe, cmpGt, cmpGe, cmpEq, cmpNe, cmpIs, cmpIsN, cmpIn, cmpNotIn, binAdd, binSub, lenTup, lenLst, biMax, biMin, biInt, biIntB, tupTup, tupLst, lstTup, lstLst, ixT, ixL, slTup, slLst, atI0, atI1, atI2, atI3, atI4, atI5, isiTup, isiLst, seqTup, seqLst, lstOfLst, gOfTup, gOfLst, lstOfS, seqOfS, lenS, tupS, lstS, ixS, Sto.set_same, Sto.set_set, eqInt, eqStr, eqNil, isNon, Option.map_some, List.length_cons, List.length_nil, List.length_map, if_true, if_false, Bool.false_eq_true, Bool.not_true, Bool.not_false, reduceIte, decide_true, decide_false, Bool.and_self]
    exact h _
theorem c_law_draws {c : Int} {n : Nat} {S : Sto} {R : QD} {E : XP} (hn : n ≤ 1000) (h : ∀ xs : List Int, xs.length = n → (∀ x ∈ xs, 0 ≤ x) → R (nnD xs) S) : (Γ 25).sp [.int c, .int (n : Int)] S R E := ⟨_, _, rfl, hn, h⟩
theorem binPow {S : Sto} {i j : Int} (h0 : 0 ≤ j) (h1 : j ≤ 1000000) (h2 : i.natAbs < 2 ^ 64) : binD .Pow S (.int i) (.int j) = some (.int (i ^ j.toNat)) := by
  show guardO _ _ = _
  rw [decide_eq_true h0, decide_eq_true h1, decide_eq_true h2]; rfl
theorem mul_r {i j : Int} (h : -(2 ^ 64) < j) (g : j < 2 ^ 64) : mulOk i j = true := by
  unfold mulOk; rw [decide_eq_true h, decide_eq_true g]; simp
theorem mul_l {i j : Int} (h : -(2 ^ 64) < i) (g : i < 2 ^ 64) : mulOk i j = true := by
  unfold mulOk; rw [decide_eq_true h, decide_eq_true g]; simp
theorem p_law_draws : Kept sp_law_draws b_law_draws 8 := by
  rintro ds S R E ⟨c, n, rfl, hn, h⟩
  show wSs Γ Ct E b_law_draws (KR R) [some (.int c), some (.int (n : Int)), none, none, none, none, none, none] S
  simp -implicitDefEqProofs only [b_law_draws, wSs, wS, wE, wA, wP, wI, wIfs, tgNm, tgTup, tgNil, tgCons, getS, setS, optW_some, conD, negD, wip0, wipC, List.set_cons_zero, List.set_cons_succ, cmpLt, cmpLe, cmpGt, cmpGe, cmpEq, cmpNe, cmpIs, cmpIsN, cmpIn, cmpNotIn, binAdd, binSub, lenTup, lenLst, biMax, biMin, biInt, biIntB, tupTup, tupLst, lstTup, lstLst, ixT, ixL, slTup, slLst, atI0, atI1, atI2, atI3, atI4, atI5, isiTup, isiLst, seqTup, seqLst, lstOfLst, gOfTup, gOfLst, lstOfS, seqOfS, lenS, tupS, lstS, ixS, Sto.set_same, Sto.set_set, eqInt, eqStr, eqNil, isNon, Option.map_some, List.length_cons, List.length_nil, List.length_map]
  intro a ha
  rw [binPow (by decide) (by decide) (by decide)]
  try simp -implicitDefEqProofs only [wSs, wS, wE, wA, wP, wI, wIfs, tgNm, tgTup, tgNil, tgCons, getS, setS, optW_some, conD, negD, wip0, wipC, List.set_cons_zero, List.set_cons_succ, cmpLt, cmpLe, cmpGt, cmpGe, cmpEq, cmpNe, cmpIs, cmpIsN, cmpIn, cmpNotIn, binAdd, binSub, lenTup, lenLst, biMax, biMin, biInt, biIntB, tupTup, tupLst, lstTup, lstLst, ixT, ixL, slTup, slLst, atI0, atI1, atI2, atI3, atI4, atI5, isiTup, isiLst, seqTup, seqLst, lstOfLst, gOfTup, gOfLst, lstOfS, seqOfS, lenS, tupS, lstS, ixS, Sto.set_same, Sto.set_set, eqInt, eqStr, eqNil, isNon, Option.map_some, List.length_cons, List.length_nil, List.length_map]
  rw [binPow (by decide) (by decide) (by decide)]
  try simp -implicitDefEqProofs only [wSs, wS, wE, wA, wP, wI, wIfs, tgNm, tgTup, tgNil, tgCons, getS, setS, optW_some, conD, negD, wip0, wipC, List.set_cons_zero, List.set_cons_succ, cmpLt, cmpLe, cmpGt, cmpGe, cmpEq, cmpNe, cmpIs, cmpIsN, cmpIn, cmpNotIn, binAdd, binSub, lenTup, lenLst, biMax, biMin, biInt, biIntB, tupTup, tupLst, lstTup, lstLst, ixT, ixL, slTup, slLst, atI0, atI1, atI2, atI3, atI4, atI5, isiTup, isiLst, seqTup, seqLst, lstOfLst, gOfTup, gOfLst, lstOfS, seqOfS, lenS, tupS, lstS, ixS, Sto.set_same, Sto.set_set, eqInt, eqStr, eqNil, isNon, Option.map_some, List.length_cons, List.length_nil, List.length_map]
  rw [binMod (by decide)]
  try simp -implicitDefEqProofs only [wSs, wS, wE, wA, wP, wI, wIfs, tgNm, tgTup, tgNil, tgCons, getS, setS, optW_some, conD, negD, wip0, wipC, List.set_cons_zero, List.set_cons_succ, cmpLt, cmpLe, cmpGt, cmpGe, cmpEq, cmpNe, cmpIs, cmpIsN, cmpIn, cmpNotIn, binAdd, binSub, lenTup, lenLst, biMax, biMin, biInt, biIntB, tupTup, tupLst, lstTup, lstLst, ixT, ixL, slTup, slLst, atI0, atI1, atI2, atI3, atI4, atI5, isiTup, isiLst, seqTup, seqLst, lstOfLst, gOfTup, gOfLst, lstOfS, seqOfS, lenS, tupS, lstS, ixS, Sto.set_same, Sto.set_set, eqInt, eqStr, eqNil, isNon, Option.map_some, List.length_cons, List.length_nil, List.length_map]
  refine ⟨⟨⟨by omega, by omega⟩, ⟨by omega, by omega⟩, by omega⟩, ?_⟩
  refine forW_inv (fun ds' st S' => ∃ (xs : List Int) (rest seed : Int) (k : Nat) (y1 y2 y3 : Option D), S' = S.set a (.lst (xs.map D.int)) ∧ (∀ x ∈ xs, 0 ≤ x) ∧ xs.length = k ∧ k + ds'.length = n ∧
    ds' = ((List.range' k (n - k)).map fun (i : Nat) => D.int (i : Int)) ∧ st = [some (.int c), some (.int (n : Int)), some (.loc a), some (.int rest), some (.int seed), y1, y2, y3]) ?_ ?_ ?_
  · rintro d' ds' st S' nxt ⟨xs, rest, seed, k, y1, y2, y3, rfl, hx, hk, hlen, hds, rfl⟩ hn'
    refine ⟨trivial, ?_⟩
    have hkn : k < n := by simp at hlen; omega
    obtain ⟨m, hm⟩ : ∃ m, n - k = m + 1 := ⟨n - k - 1, by omega⟩
    rw [hm, List.range'_succ, List.map_cons] at hds
    simp -implicitDefEqProofs only [List.cons.injEq] at hds
    obtain ⟨rfl, rfl⟩ := hds
    try simp -implicitDefEqProofs only [wSs, wS, wE, wA, wP, wI, wIfs, tgNm, tgTup, tgNil, tgCons, getS, setS, optW_some, conD, negD, wip0, wipC, List.set_cons_zero, List.set_cons_succ, cmpLt, cmpLe, cmpGt, cmpGe, cmpEq, cmpNe, cmpIs, cmpIsN, cmpIn, cmpNotIn, binAdd, binSub, lenTup, lenLst, biMax, biMin, biInt, biIntB, tupTup, tupLst, lstTup, lstLst, ixT, ixL, slTup, slLst, atI0, atI1, atI2, atI3, atI4, atI5, isiTup, isiLst, seqTup, seqLst, lstOfLst, gOfTup, gOfLst, lstOfS, seqOfS, lenS, tupS, lstS, ixS, Sto.set_same, Sto.set_set, eqInt, eqStr, eqNil, isNon, Option.map_some, List.length_cons, List.length_nil, List.length_map]
    rw [binMul (mul_r (by decide) (by decide))]
    try simp -implicitDefEqProofs only [wSs, wS, wE, wA, wP, wI, wIfs, tgNm, tgTup, tgNil, tgCons, getS, setS, optW_some, conD, negD, wip0, wipC, List.set_cons_zero, List.set_cons_succ, cmpLt, cmpLe, cmpGt, cmpGe, cmpEq, cmpNe, cmpIs, cmpIsN, cmpIn, cmpNotIn, binAdd, binSub, lenTup, lenLst, biMax, biMin, biInt, biIntB, tupTup, tupLst, lstTup, lstLst, ixT, ixL, slTup, slLst, atI0, atI1, atI2, atI3, atI4, atI5, isiTup, isiLst, seqTup, seqLst, lstOfLst, gOfTup, gOfLst, lstOfS, seqOfS, lenS, tupS, lstS, ixS, Sto.set_same, Sto.set_set, eqInt, eqStr, eqNil, isNon, Option.map_some, List.length_cons, List.length_nil, List.length_map]
    rw [binMul (mul_r (by omega) (by omega))]
    try simp -implicitDefEqProofs only [wSs, wS, wE, wA, wP, wI, wIfs, tgNm, tgTup, tgNil, tgCons, getS, setS, optW_some, conD, negD, wip0, wipC, List.set_cons_zero, List.set_cons_succ, cmpLt, cmpLe, cmpGt, cmpGe, cmpEq, cmpNe, cmpIs, cmpIsN, cmpIn, cmpNotIn, binAdd, binSub, lenTup, lenLst, biMax, biMin, biInt, biIntB, tupTup, tupLst, lstTup, lstLst, ixT, ixL, slTup, slLst, atI0, atI1, atI2, atI3, atI4, atI5, isiTup, isiLst, seqTup, seqLst, lstOfLst, gOfTup, gOfLst, lstOfS, seqOfS, lenS, tupS, lstS, ixS, Sto.set_same, Sto.set_set, eqInt, eqStr, eqNil, isNon, Option.map_some, List.length_cons, List.length_nil, List.length_map]
    rw [binMul (mul_r (by decide) (by decide))]
    try simp -implicitDefEqProofs only [wSs, wS, wE, wA, wP, wI, wIfs, tgNm, tgTup, tgNil, tgCons, getS, setS, optW_some, conD, negD, wip0, wipC, List.set_cons_zero, List.set_cons_succ, cmpLt, cmpLe, cmpGt, cmpGe, cmpEq, cmpNe, cmpIs, cmpIsN, cmpIn, cmpNotIn, binAdd, binSub, lenTup, lenLst, biMax, biMin, biInt, biIntB, tupTup, tupLst, lstTup, lstLst, ixT, ixL, slTup, slLst, atI0, atI1, atI2, atI3, atI4, atI5, isiTup, isiLst, seqTup, seqLst, lstOfLst, gOfTup, gOfLst, lstOfS, seqOfS, lenS, tupS, lstS, ixS, Sto.set_same, Sto.set_set, eqInt, eqStr, eqNil, isNon, Option.map_some, List.length_cons, List.length_nil, List.length_map]
    rw [binMod (by decide)]
    try simp -implicitDefEqProofs only [wSs, wS, wE, wA, wP, wI, wIfs, tgNm, tgTup, tgNil, tgCons, getS, setS, optW_some, conD, negD, wip0, wipC, List.set_cons_zero, List.set_cons_succ, cmpLt, cmpLe, cmpGt, cmpGe, cmpEq, cmpNe, cmpIs, cmpIsN, cmpIn, cmpNotIn, binAdd, binSub, lenTup, lenLst, biMax, biMin, biInt, biIntB, tupTup, tupLst, lstTup, lstLst, ixT, ixL, slTup, slLst, atI0, atI1, atI2, atI3, atI4, atI5, isiTup, isiLst, seqTup, seqLst, lstOfLst, gOfTup, gOfLst, lstOfS, seqOfS, lenS, tupS, lstS, ixS, Sto.set_same, Sto.set_set, eqInt, eqStr, eqNil, isNon, Option.map_some, List.length_cons, List.length_nil, List.length_map]
    rw [binMul (mul_r (by omega) (by omega))]
    try simp -implicitDefEqProofs only [wSs, wS, wE, wA, wP, wI, wIfs, tgNm, tgTup, tgNil, tgCons, getS, setS, optW_some, conD, negD, wip0, wipC, List.set_cons_zero, List.set_cons_succ, cmpLt, cmpLe, cmpGt, cmpGe, cmpEq, cmpNe, cmpIs, cmpIsN, cmpIn, cmpNotIn, binAdd, binSub, lenTup, lenLst, biMax, biMin, biInt, biIntB, tupTup, tupLst, lstTup, lstLst, ixT, ixL, slTup, slLst, atI0, atI1, atI2, atI3, atI4, atI5, isiTup, isiLst, seqTup, seqLst, lstOfLst, gOfTup, gOfLst, lstOfS, seqOfS, lenS, tupS, lstS, ixS, Sto.set_same, Sto.set_set, eqInt, eqStr, eqNil, isNon, Option.map_some, List.length_cons, List.length_nil, List.length_map]
    rw [binMul (mul_r (by omega) (by omega))]
    try simp -implicitDefEqProofs only [wSs, wS, wE, wA, wP, wI, wIfs, tgNm, tgTup, tgNil, tgCons, getS, setS, optW_some, conD, negD, wip0, wipC, List.set_cons_zero, List.set_cons_succ, cmpLt, cmpLe, cmpGt, cmpGe, cmpEq, cmpNe, cmpIs, cmpIsN, cmpIn, cmpNotIn, binAdd, binSub, lenTup, lenLst, biMax, biMin, biInt, biIntB, tupTup, tupLst, lstTup, lstLst, ixT, ixL, slTup, slLst, atI0, atI1, atI2, atI3, atI4, atI5, isiTup, isiLst, seqTup, seqLst, lstOfLst, gOfTup, gOfLst, lstOfS, seqOfS, lenS, tupS, lstS, ixS, Sto.set_same, Sto.set_set, eqInt, eqStr, eqNil, isNon, Option.map_some, List.length_cons, List.length_nil, List.length_map]
    rw [binMod (by decide)]
    try simp -implicitDefEqProofs only [wSs, wS, wE, wA, wP, wI, wIfs, tgNm, tgTup, tgNil, tgCons, getS, setS, optW_some, conD, negD, wip0, wipC, List.set_cons_zero, List.set_cons_succ, cmpLt, cmpLe, cmpGt, cmpGe, cmpEq, cmpNe, cmpIs, cmpIsN, cmpIn, cmpNotIn, binAdd, binSub, lenTup, lenLst, biMax, biMin, biInt, biIntB, tupTup, tupLst, lstTup, lstLst, ixT, ixL, slTup, slLst, atI0, atI1, atI2, atI3, atI4, atI5, isiTup, isiLst, seqTup, seqLst, lstOfLst, gOfTup, gOfLst, lstOfS, seqOfS, lenS, tupS, lstS, ixS, Sto.set_same, Sto.set_set, eqInt, eqStr, eqNil, isNon, Option.map_some, List.length_cons, List.length_nil, List.length_map]
    rw [binDiv (by decide) (by decide)]
    try simp -implicitDefEqProofs only [wSs, wS, wE, wA, wP, wI, wIfs, tgNm, tgTup, tgNil, tgCons, getS, setS, optW_some, conD, negD, wip0, wipC, List.set_cons_zero, List.set_cons_succ, cmpLt, cmpLe, cmpGt, cmpGe, cmpEq, cmpNe, cmpIs, cmpIsN, cmpIn, cmpNotIn, binAdd, binSub, lenTup, lenLst, biMax, biMin, biInt, biIntB, tupTup, tupLst, lstTup, lstLst, ixT, ixL, slTup, slLst, atI0, atI1, atI2, atI3, atI4, atI5, isiTup, isiLst, seqTup, seqLst, lstOfLst, gOfTup, gOfLst, lstOfS, seqOfS, lenS, tupS, lstS, ixS, Sto.set_same, Sto.set_set, eqInt, eqStr, eqNil, isNon, Option.map_some, List.length_cons, List.length_nil, List.length_map]
    rw [binMod (by decide)]
    try simp -implicitDefEqProofs only [wSs, wS, wE, wA, wP, wI, wIfs, tgNm, tgTup, tgNil, tgCons, getS, setS, optW_some, conD, negD, wip0, wipC, List.set_cons_zero, List.set_cons_succ, cmpLt, cmpLe, cmpGt, cmpGe, cmpEq, cmpNe, cmpIs, cmpIsN, cmpIn, cmpNotIn, binAdd, binSub, lenTup, lenLst, biMax, biMin, biInt, biIntB, tupTup, tupLst, lstTup, lstLst, ixT, ixL, slTup, slLst, atI0, atI1, atI2, atI3, atI4, atI5, isiTup, isiLst, seqTup, seqLst, lstOfLst, gOfTup, gOfLst, lstOfS, seqOfS, lenS, tupS, lstS, ixS, Sto.set_same, Sto.set_set, eqInt, eqStr, eqNil, isNon, Option.map_some, List.length_cons, List.length_nil, List.length_map]
    have step : ∀ (x rest' : Int) (st' : SD), 0 ≤ x → (∃ z1 z2 z3, st' = [some (.int c), some (.int (n : Int)), some (.loc a), some (.int rest'), some (.int seed), z1, z2, z3]) →
        nxt st' (S.set a (.lst (xs.map D.int ++ [.int x]))) := by
      rintro x rest' st' hx' ⟨z1, z2, z3, rfl⟩
      refine hn' _ _ ⟨xs ++ [x], rest', seed, k + 1, z1, z2, z3, by simp, ?_, by simp [hk], by simp at hlen ⊢; omega, ?_, rfl⟩
      · intro y hy
        rcases List.mem_append.mp hy with q | q
        · exact hx y q
        · simp at q; omega
      · have : n - (k + 1) = m := by omega
        rw [this]
    by_cases q : 0 < rest
    · simp -implicitDefEqProofs only [decide_eq_true q, if_true, if_false, Bool.false_eq_true, Bool.not_true, Bool.not_false, reduceIte, decide_true, decide_false, Bool.and_self, wSs, wS, wE, wA, wP, wI, wIfs, tgNm, tgTup, tgNil, tgCons, getS, setS, optW_some, conD, negD, wip0, wipC, List.set_cons_zero, List.set_cons_succ, cmpLt, cmpLe, cmpGt, cmpGe, cmpEq, cmpNe, cmpIs, cmpIsN, cmpIn, cmpNotIn, binAdd, binSub, lenTup, lenLst, biMax, biMin, biInt, biIntB, tupTup, tupLst, lstTup, lstLst, ixT, ixL, slTup, slLst, atI0, atI1, atI2, atI3, atI4, atI5, isiTup, isiLst, seqTup, seqLst, lstOfLst, gOfTup, gOfLst, lstOfS, seqOfS, lenS, tupS, lstS, ixS, Sto.set_same, Sto.set_set, eqInt, eqStr, eqNil, isNon, Option.map_some, List.length_cons, List.length_nil, List.length_map]
      rw [binMod (by decide)]
      try simp -implicitDefEqProofs only [wSs, wS, wE, wA, wP, wI, wIfs, tgNm, tgTup, tgNil, tgCons, getS, setS, optW_some, conD, negD, wip0, wipC, List.set_cons_zero, List.set_cons_succ, cmpLt, cmpLe, cmpGt, cmpGe, cmpEq, cmpNe, cmpIs, cmpIsN, cmpIn, cmpNotIn, binAdd, binSub, lenTup, lenLst, biMax, biMin, biInt, biIntB, tupTup, tupLst, lstTup, lstLst, ixT, ixL, slTup, slLst, atI0, atI1, atI2, atI3, atI4, atI5, isiTup, isiLst, seqTup, seqLst, lstOfLst, gOfTup, gOfLst, lstOfS, seqOfS, lenS, tupS, lstS, ixS, Sto.set_same, Sto.set_set, eqInt, eqStr, eqNil, isNon, Option.map_some, List.length_cons, List.length_nil, List.length_map]
      rw [binDiv (by decide) (by decide)]
      simp -implicitDefEqProofs only [wSs, wS, wE, wA, wP, wI, wIfs, tgNm, tgTup, tgNil, tgCons, getS, setS, optW_some, conD, negD, wip0, wipC, List.set_cons_zero, List.set_cons_succ, cmpLt, cmpLe, cmpGt, cmpGe, cmpEq, cmpNe, cmpIs, cmpIsN, cmpIn, cmpNotIn, binAdd, binSub, lenTup, lenLst, biMax, biMin, biInt, biIntB, tupTup, tupLst, lstTup, lstLst, ixT, ixL, slTup, slLst, atI0, atI1, atI2, atI3, atI4, atI5, isiTup, isiLst, seqTup, seqLst, lstOfLst, gOfTup, gOfLst, lstOfS, seqOfS, lenS, tupS, lstS, ixS, Sto.set_same, Sto.set_set, eqInt, eqStr, eqNil, isNon, Option.map_some, List.length_cons, List.length_nil, List.length_map, lstOfLoc Sto.set_same]
      refine meApp Sto.set_same (by simp; omega) ?_
      rw [Sto.set_set]
      exact step _ _ _ (Int.emod_nonneg _ (by decide)) ⟨_, _, _, rfl⟩
    · simp -implicitDefEqProofs only [decide_eq_false q, if_true, if_false, Bool.false_eq_true, Bool.not_true, Bool.not_false, reduceIte, decide_true, decide_false, Bool.and_self, wSs, wS, wE, wA, wP, wI, wIfs, tgNm, tgTup, tgNil, tgCons, getS, setS, optW_some, conD, negD, wip0, wipC, List.set_cons_zero, List.set_cons_succ, cmpLt, cmpLe, cmpGt, cmpGe, cmpEq, cmpNe, cmpIs, cmpIsN, cmpIn, cmpNotIn, binAdd, binSub, lenTup, lenLst, biMax, biMin, biInt, biIntB, tupTup, tupLst, lstTup, lstLst, ixT, ixL, slTup, slLst, atI0, atI1, atI2, atI3, atI4, atI5, isiTup, isiLst, seqTup, seqLst, lstOfLst, gOfTup, gOfLst, lstOfS, seqOfS, lenS, tupS, lstS, ixS, Sto.set_same, Sto.set_set, eqInt, eqStr, eqNil, isNon, Option.map_some, List.length_cons, List.length_nil, List.length_map, lstOfLoc Sto.set_same]
      refine meApp Sto.set_same (by simp; omega) ?_
      rw [Sto.set_set]
      exact step _ _ _ (Int.emod_nonneg _ (by decide)) ⟨_, _, _, rfl⟩
  · rintro st S' ⟨xs, rest, seed, k, y1, y2, y3, rfl, hx, hk, hlen, hds, rfl⟩
    refine ⟨trivial, ?_⟩
    simp -implicitDefEqProofs only [wSs, wS, wE, wA, wP, wI, wIfs, tgNm, tgTup, tgNil, tgCons, getS, setS, optW_some, conD, negD, wip0, wipC, List.set_cons_zero, List.set_cons_succ, cmpLt, cmpLe, cmpGt, cmpGe, cmpEq, cmpNe, cmpIs, cmpIsN, cmpIn, cmpNotIn, binAdd, binSub, lenTup, lenLst, biMax, biMin, biInt, biIntB, tupTup, tupLst, lstTup, lstLst, ixT, ixL, slTup, slLst, atI0, atI1, atI2, atI3, atI4, atI5, isiTup, isiLst, seqTup, seqLst, lstOfLst, gOfTup, gOfLst, lstOfS, seqOfS, lenS, tupS, lstS, ixS, Sto.set_same, Sto.set_set, eqInt, eqStr, eqNil, isNon, Option.map_some, List.length_cons, List.length_nil, List.length_map, Sto.set_same]
    rw [Sto.del_set ha]
    exact h xs (by simp at hlen; omega) hx
  · refine ⟨[], _, _, 0, _, _, _, rfl, by simp, rfl, by simp [rngD], ?_, rfl⟩
    simp -implicitDefEqProofs only [rngD]
    rw [List.range_eq_range']
    simp
end FC
namespace FC
open PySem PySem.Spec PyProof.Rows DL
theorem mePop {S : Sto} {a : Addr} {ds : List D} {i : Int} {y : D} {Q : QD} (h : S a = some (.lst ds)) (h0 : 0 ≤ i) (h1 : i < ds.length) (hy : ds[i.toNat]? = some y) (hq : Q y (S.set a (.lst (ds.eraseIdx i.toNat)))) : meD .popAt (.loc a) (.int i) S Q := by
  have e : L2.ixN ds.length i = some i.toNat := by unfold L2.ixN; rw [if_pos h0, if_pos h1]
  show (match S a, (D.int i) with
    | some (.lst ds), .int i => optW (L2.ixN ds.length i) fun k => optW ds[k]? fun y => Q y (S.set a (.lst (ds.eraseIdx k)))
    | _, _ => False)
  rw [h]
  show optW (L2.ixN ds.length i) _
  rw [e, optW_some, hy, optW_some]
  exact hq
theorem eraseIdx_map {α β : Type} {f : α → β} : ∀ {xs : List α} {k : Nat}, (xs.map f).eraseIdx k = (xs.eraseIdx k).map f
  | [], _ => rfl
  | _ :: _, 0 => rfl
  | x :: xs, k + 1 => by simp [eraseIdx_map (xs := xs) (k := k)]
theorem c_law_setup {xs : List Int} {S : Sto} {R : QD} {E : XP} (hl : xs.length = 12) (hx : ∀ x ∈ xs, 0 ≤ x) (h : ∀ u : Su, u.Ok → R u.d S) : (Γ 24).sp [nnD xs] S R E := ⟨_, rfl, hl, hx, h⟩
theorem p_law_setup : Kept sp_law_setup b_law_setup 5 := by
  rintro ds S R E ⟨xs, rfl, hl, hx, h⟩
  show wSs Γ Ct E b_law_setup (KR R) [some (.lst (xs.map D.int)), none, none, none, none] S
  have g : ∀ (k : Nat) (hk : k < 12), L2.atI (xs.map D.int) (k : Int) = some (.int (xs[k]'(by omega))) := fun k hk => at_map (List.getElem?_eq_getElem (by omega))
  have e0 : L2.atI (xs.map D.int) 0 = some (.int (xs[0]'(by omega))) := g 0 (by omega)
  have e8 : L2.atI (xs.map D.int) 8 = some (.int (xs[8]'(by omega))) := g 8 (by omega)
  have e9 : L2.atI (xs.map D.int) 9 = some (.int (xs[9]'(by omega))) := g 9 (by omega)
  have e10 : L2.atI (xs.map D.int) 10 = some (.int (xs[10]'(by omega))) := g 10 (by omega)
  have e11 : L2.atI (xs.map D.int) 11 = some (.int (xs[11]'(by omega))) := g 11 (by omega)
  generalize xs[0]'(by omega) = x0 at e0
  generalize xs[8]'(by omega) = x8 at e8
  generalize xs[9]'(by omega) = x9 at e9
  generalize xs[10]'(by omega) = x10 at e10
  generalize xs[11]'(by omega) = x11 at e11
  simp -implicitDefEqProofs only [b_law_setup, wSs, wS, wE, wA, wP, wI, wIfs, tgNm, tgTup, tgNil, tgCons, getS, setS, optW_some, conD, negD, wip0, wipC, List.set_cons_zero, List.set_cons_succ, cmpLt, cmpLe, cmpGt, cmpGe, cmpEq, cmpNe, cmpIs, cmpIsN, cmpIn, cmpNotIn, binAdd, binSub, lenTup, lenLst, biMax, biMin, biInt, biIntB, tupTup, tupLst, lstTup, lstLst, ixT, ixL, slTup, slLst, atI0, atI1, atI2, atI3, atI4, atI5, isiTup, isiLst, seqTup, seqLst, lstOfLst, gOfTup, gOfLst, lstOfS, seqOfS, lenS, tupS, lstS, ixS, Sto.set_same, Sto.set_set, eqInt, eqStr, eqNil, isNon, Option.map_some, List.length_cons, List.length_nil, List.length_map, e0]
  rw [binMod (by decide)]
  try simp -implicitDefEqProofs only [wSs, wS, wE, wA, wP, wI, wIfs, tgNm, tgTup, tgNil, tgCons, getS, setS, optW_some, conD, negD, wip0, wipC, List.set_cons_zero, List.set_cons_succ, cmpLt, cmpLe, cmpGt, cmpGe, cmpEq, cmpNe, cmpIs, cmpIsN, cmpIn, cmpNotIn, binAdd, binSub, lenTup, lenLst, biMax, biMin, biInt, biIntB, tupTup, tupLst, lstTup, lstLst, ixT, ixL, slTup, slLst, atI0, atI1, atI2, atI3, atI4, atI5, isiTup, isiLst, seqTup, seqLst, lstOfLst, gOfTup, gOfLst, lstOfS, seqOfS, lenS, tupS, lstS, ixS, Sto.set_same, Sto.set_set, eqInt, eqStr, eqNil, isNon, Option.map_some, List.length_cons, List.length_nil, List.length_map]
  have m2 : 0 ≤ x0 % 2 ∧ x0 % 2 < 2 := ⟨Int.emod_nonneg _ (by decide), Int.emod_lt_of_pos _ (by decide)⟩
  have m3 : 0 ≤ x0 / 2 % 3 ∧ x0 / 2 % 3 < 3 := ⟨Int.emod_nonneg _ (by decide), Int.emod_lt_of_pos _ (by decide)⟩
  rw [cut_midI (by decide) (by omega), ← List.map_take, ← List.map_drop]
  refine lcW_map (f := fun d => match d with | .int x => .int (1 + x % 5) | _ => .non) ?_ trivial ?_
  · intro d hd R' hR
    obtain ⟨n, hn, rfl⟩ := List.mem_map.mp hd
    try simp -implicitDefEqProofs only [wSs, wS, wE, wA, wP, wI, wIfs, tgNm, tgTup, tgNil, tgCons, getS, setS, optW_some, conD, negD, wip0, wipC, List.set_cons_zero, List.set_cons_succ, cmpLt, cmpLe, cmpGt, cmpGe, cmpEq, cmpNe, cmpIs, cmpIsN, cmpIn, cmpNotIn, binAdd, binSub, lenTup, lenLst, biMax, biMin, biInt, biIntB, tupTup, tupLst, lstTup, lstLst, ixT, ixL, slTup, slLst, atI0, atI1, atI2, atI3, atI4, atI5, isiTup, isiLst, seqTup, seqLst, lstOfLst, gOfTup, gOfLst, lstOfS, seqOfS, lenS, tupS, lstS, ixS, Sto.set_same, Sto.set_set, eqInt, eqStr, eqNil, isNon, Option.map_some, List.length_cons, List.length_nil, List.length_map]
    rw [binMod (by decide)]
    try simp -implicitDefEqProofs only [wSs, wS, wE, wA, wP, wI, wIfs, tgNm, tgTup, tgNil, tgCons, getS, setS, optW_some, conD, negD, wip0, wipC, List.set_cons_zero, List.set_cons_succ, cmpLt, cmpLe, cmpGt, cmpGe, cmpEq, cmpNe, cmpIs, cmpIsN, cmpIn, cmpNotIn, binAdd, binSub, lenTup, lenLst, biMax, biMin, biInt, biIntB, tupTup, tupLst, lstTup, lstLst, ixT, ixL, slTup, slLst, atI0, atI1, atI2, atI3, atI4, atI5, isiTup, isiLst, seqTup, seqLst, lstOfLst, gOfTup, gOfLst, lstOfS, seqOfS, lenS, tupS, lstS, ixS, Sto.set_same, Sto.set_set, eqInt, eqStr, eqNil, isNon, Option.map_some, List.length_cons, List.length_nil, List.length_map]
    exact hR
  simp -implicitDefEqProofs only [List.nil_append, List.map_map]
  rw [show ((fun d => match d with | D.int x => D.int (1 + x % 5) | _ => D.non) ∘ D.int) = (D.int ∘ fun (x : Int) => 1 + x % 5) from rfl, ← List.map_map]
  generalize hs : ((xs.take (2 + x0 % 2).toNat).drop (1 : Int).toNat).map (fun x => 1 + x % 5) = seats
  have hs1 : 1 ≤ seats.length ∧ seats.length ≤ 2 := by
    rw [← hs]; simp -implicitDefEqProofs only [List.length_map, List.length_drop, List.length_take]; omega
  have hs2 : ∀ x ∈ seats, 1 ≤ x ∧ x ≤ 5 := by
    intro x hx
    rw [← hs] at hx
    obtain ⟨y, _, rfl⟩ := List.mem_map.mp hx
    have := Int.emod_nonneg y (show (5 : Int) ≠ 0 by decide)
    have := Int.emod_lt_of_pos y (show (0 : Int) < 5 by decide)
    omega
  intro a ha
  rw [binDiv (by decide) (by decide)]
  try simp -implicitDefEqProofs only [wSs, wS, wE, wA, wP, wI, wIfs, tgNm, tgTup, tgNil, tgCons, getS, setS, optW_some, conD, negD, wip0, wipC, List.set_cons_zero, List.set_cons_succ, cmpLt, cmpLe, cmpGt, cmpGe, cmpEq, cmpNe, cmpIs, cmpIsN, cmpIn, cmpNotIn, binAdd, binSub, lenTup, lenLst, biMax, biMin, biInt, biIntB, tupTup, tupLst, lstTup, lstLst, ixT, ixL, slTup, slLst, atI0, atI1, atI2, atI3, atI4, atI5, isiTup, isiLst, seqTup, seqLst, lstOfLst, gOfTup, gOfLst, lstOfS, seqOfS, lenS, tupS, lstS, ixS, Sto.set_same, Sto.set_set, eqInt, eqStr, eqNil, isNon, Option.map_some, List.length_cons, List.length_nil, List.length_map]
  rw [binMod (by decide)]
  try simp -implicitDefEqProofs only [wSs, wS, wE, wA, wP, wI, wIfs, tgNm, tgTup, tgNil, tgCons, getS, setS, optW_some, conD, negD, wip0, wipC, List.set_cons_zero, List.set_cons_succ, cmpLt, cmpLe, cmpGt, cmpGe, cmpEq, cmpNe, cmpIs, cmpIsN, cmpIn, cmpNotIn, binAdd, binSub, lenTup, lenLst, biMax, biMin, biInt, biIntB, tupTup, tupLst, lstTup, lstLst, ixT, ixL, slTup, slLst, atI0, atI1, atI2, atI3, atI4, atI5, isiTup, isiLst, seqTup, seqLst, lstOfLst, gOfTup, gOfLst, lstOfS, seqOfS, lenS, tupS, lstS, ixS, Sto.set_same, Sto.set_set, eqInt, eqStr, eqNil, isNon, Option.map_some, List.length_cons, List.length_nil, List.length_map]
  rw [cut_midI (by decide) (by omega), ← List.map_take, ← List.map_drop]
  generalize hq : (xs.take (7 - x0 / 2 % 3).toNat).drop (3 : Int).toNat = ys
  have hy1 : 2 ≤ ys.length ∧ ys.length ≤ 4 := by
    rw [← hq]; simp -implicitDefEqProofs only [List.length_drop, List.length_take]; omega
  refine forW_inv (fun ds' st S' => ∃ (zs ws : List Int) (y1 y2 : Option D), S' = S.set a (.lst (zs.map D.int)) ∧ List.Sublist zs [1, 2, 3, 4, 5] ∧ zs.length + ys.length = 5 + ws.length ∧ ds' = ws.map D.int ∧ st = [some (.lst (xs.map D.int)), some (.tup (seats.map D.int)), y1, some (.loc a), y2]) ?_ ?_ ?_
  · rintro d' ds' st S' nxt ⟨zs, ws, y1, y2, rfl, hz, hzl, hds, rfl⟩ hn
    cases ws with
    | nil => cases hds
    | cons w ws =>
      rw [List.map_cons, List.cons.injEq] at hds
      obtain ⟨rfl, rfl⟩ := hds
      refine ⟨trivial, ?_⟩
      have hp : 0 < zs.length := by simp at hzl; omega
      simp -implicitDefEqProofs only [wSs, wS, wE, wA, wP, wI, wIfs, tgNm, tgTup, tgNil, tgCons, getS, setS, optW_some, conD, negD, wip0, wipC, List.set_cons_zero, List.set_cons_succ, cmpLt, cmpLe, cmpGt, cmpGe, cmpEq, cmpNe, cmpIs, cmpIsN, cmpIn, cmpNotIn, binAdd, binSub, lenTup, lenLst, biMax, biMin, biInt, biIntB, tupTup, tupLst, lstTup, lstLst, ixT, ixL, slTup, slLst, atI0, atI1, atI2, atI3, atI4, atI5, isiTup, isiLst, seqTup, seqLst, lstOfLst, gOfTup, gOfLst, lstOfS, seqOfS, lenS, tupS, lstS, ixS, Sto.set_same, Sto.set_set, eqInt, eqStr, eqNil, isNon, Option.map_some, List.length_cons, List.length_nil, List.length_map, lstOfLoc Sto.set_same, lenLoc Sto.set_same]
      rw [binMod (by omega)]
      try simp -implicitDefEqProofs only [wSs, wS, wE, wA, wP, wI, wIfs, tgNm, tgTup, tgNil, tgCons, getS, setS, optW_some, conD, negD, wip0, wipC, List.set_cons_zero, List.set_cons_succ, cmpLt, cmpLe, cmpGt, cmpGe, cmpEq, cmpNe, cmpIs, cmpIsN, cmpIn, cmpNotIn, binAdd, binSub, lenTup, lenLst, biMax, biMin, biInt, biIntB, tupTup, tupLst, lstTup, lstLst, ixT, ixL, slTup, slLst, atI0, atI1, atI2, atI3, atI4, atI5, isiTup, isiLst, seqTup, seqLst, lstOfLst, gOfTup, gOfLst, lstOfS, seqOfS, lenS, tupS, lstS, ixS, Sto.set_same, Sto.set_set, eqInt, eqStr, eqNil, isNon, Option.map_some, List.length_cons, List.length_nil, List.length_map]
      have b1 := Int.emod_nonneg w (show (zs.length : Int) ≠ 0 by omega)
      have b2 := Int.emod_lt_of_pos w (show (0 : Int) < zs.length by omega)
      have b3 : (w % (zs.length : Int)).toNat < zs.length := by omega
      refine mePop (y := .int (zs[(w % (zs.length : Int)).toNat])) Sto.set_same b1 (by simpa using b2) (by rw [List.getElem?_map, List.getElem?_eq_getElem b3]; rfl) ?_
      rw [Sto.set_set, eraseIdx_map]
      refine hn _ _ ⟨_, ws, _, _, rfl, (List.eraseIdx_sublist ..).trans hz, ?_, rfl, rfl⟩
      rw [List.length_eraseIdx_of_lt b3]
      simp at hzl; omega
  · rintro st S' ⟨zs, ws, y1, y2, rfl, hz, hzl, hds, rfl⟩
    cases ws with
    | cons => cases hds
    | nil =>
      refine ⟨trivial, ?_⟩
      simp -implicitDefEqProofs only [wSs, wS, wE, wA, wP, wI, wIfs, tgNm, tgTup, tgNil, tgCons, getS, setS, optW_some, conD, negD, wip0, wipC, List.set_cons_zero, List.set_cons_succ, cmpLt, cmpLe, cmpGt, cmpGe, cmpEq, cmpNe, cmpIs, cmpIsN, cmpIn, cmpNotIn, binAdd, binSub, lenTup, lenLst, biMax, biMin, biInt, biIntB, tupTup, tupLst, lstTup, lstLst, ixT, ixL, slTup, slLst, atI0, atI1, atI2, atI3, atI4, atI5, isiTup, isiLst, seqTup, seqLst, lstOfLst, gOfTup, gOfLst, lstOfS, seqOfS, lenS, tupS, lstS, ixS, Sto.set_same, Sto.set_set, eqInt, eqStr, eqNil, isNon, Option.map_some, List.length_cons, List.length_nil, List.length_map, e8, e9, e10, e11, Sto.set_same]
      rw [binMod (by decide)]
      try simp -implicitDefEqProofs only [wSs, wS, wE, wA, wP, wI, wIfs, tgNm, tgTup, tgNil, tgCons, getS, setS, optW_some, conD, negD, wip0, wipC, List.set_cons_zero, List.set_cons_succ, cmpLt, cmpLe, cmpGt, cmpGe, cmpEq, cmpNe, cmpIs, cmpIsN, cmpIn, cmpNotIn, binAdd, binSub, lenTup, lenLst, biMax, biMin, biInt, biIntB, tupTup, tupLst, lstTup, lstLst, ixT, ixL, slTup, slLst, atI0, atI1, atI2, atI3, atI4, atI5, isiTup, isiLst, seqTup, seqLst, lstOfLst, gOfTup, gOfLst, lstOfS, seqOfS, lenS, tupS, lstS, ixS, Sto.set_same, Sto.set_set, eqInt, eqStr, eqNil, isNon, Option.map_some, List.length_cons, List.length_nil, List.length_map]
      rw [binMod (by decide)]
      try simp -implicitDefEqProofs only [wSs, wS, wE, wA, wP, wI, wIfs, tgNm, tgTup, tgNil, tgCons, getS, setS, optW_some, conD, negD, wip0, wipC, List.set_cons_zero, List.set_cons_succ, cmpLt, cmpLe, cmpGt, cmpGe, cmpEq, cmpNe, cmpIs, cmpIsN, cmpIn, cmpNotIn, binAdd, binSub, lenTup, lenLst, biMax, biMin, biInt, biIntB, tupTup, tupLst, lstTup, lstLst, ixT, ixL, slTup, slLst, atI0, atI1, atI2, atI3, atI4, atI5, isiTup, isiLst, seqTup, seqLst, lstOfLst, gOfTup, gOfLst, lstOfS, seqOfS, lenS, tupS, lstS, ixS, Sto.set_same, Sto.set_set, eqInt, eqStr, eqNil, isNon, Option.map_some, List.length_cons, List.length_nil, List.length_map]
      rw [binMod (by decide)]
      try simp -implicitDefEqProofs only [wSs, wS, wE, wA, wP, wI, wIfs, tgNm, tgTup, tgNil, tgCons, getS, setS, optW_some, conD, negD, wip0, wipC, List.set_cons_zero, List.set_cons_succ, cmpLt, cmpLe, cmpGt, cmpGe, cmpEq, cmpNe, cmpIs, cmpIsN, cmpIn, cmpNotIn, binAdd, binSub, lenTup, lenLst, biMax, biMin, biInt, biIntB, tupTup, tupLst, lstTup, lstLst, ixT, ixL, slTup, slLst, atI0, atI1, atI2, atI3, atI4, atI5, isiTup, isiLst, seqTup, seqLst, lstOfLst, gOfTup, gOfLst, lstOfS, seqOfS, lenS, tupS, lstS, ixS, Sto.set_same, Sto.set_set, eqInt, eqStr, eqNil, isNon, Option.map_some, List.length_cons, List.length_nil, List.length_map]
      rw [binMod (by decide)]
      try simp -implicitDefEqProofs only [wSs, wS, wE, wA, wP, wI, wIfs, tgNm, tgTup, tgNil, tgCons, getS, setS, optW_some, conD, negD, wip0, wipC, List.set_cons_zero, List.set_cons_succ, cmpLt, cmpLe, cmpGt, cmpGe, cmpEq, cmpNe, cmpIs, cmpIsN, cmpIn, cmpNotIn, binAdd, binSub, lenTup, lenLst, biMax, biMin, biInt, biIntB, tupTup, tupLst, lstTup, lstLst, ixT, ixL, slTup, slLst, atI0, atI1, atI2, atI3, atI4, atI5, isiTup, isiLst, seqTup, seqLst, lstOfLst, gOfTup, gOfLst, lstOfS, seqOfS, lenS, tupS, lstS, ixS, Sto.set_same, Sto.set_set, eqInt, eqStr, eqNil, isNon, Option.map_some, List.length_cons, List.length_nil, List.length_map]
      rw [Sto.del_set ha]
      refine h ⟨seats, zs, 1 + x8 % 3, x9 % 5, x10 % 3, x11 % 3⟩ ⟨hs1.1, hs1.2, hs2, ?_, ?_, ?_, ?_, ?_, ?_, ?_, ?_, ?_, ?_, ?_, ?_⟩
      · simp at hzl; simp only; omega
      · simp at hzl; simp only; omega
      · intro x hx
        have := hz.subset hx
        simp at this
        omega
      · exact List.Pairwise.sublist hz (by decide)
      all_goals simp only
      all_goals omega
  · exact ⟨[1, 2, 3, 4, 5], ys, _, _, rfl, List.Sublist.refl _, by simp, rfl, rfl⟩
theorem c_law_comers {u : Su} {xs : List Int} {S : Sto} {R : QD} {E : XP} (hu : u.Ok) (hl : xs.length = 10) (hx : ∀ x ∈ xs, 0 ≤ x) (h : ∀ c, ComOk u c → R (comD c) S) : (Γ 27).sp [u.d, nnD xs] S R E := ⟨_, _, rfl, hu, hl, hx, h⟩
theorem p_law_comers : Kept sp_law_comers b_law_comers 5 := by
  rintro ds S R E ⟨u, xs, rfl, hu, hl, hx, h⟩
  show wSs Γ Ct E b_law_comers (KR R) [some (.tup [iv u.seats, .tup (u.sizes.map D.int), .tup [.int u.rg, .int u.rs], .tup [.int u.cg, .int u.cs]]), some (.lst (xs.map D.int)), none, none, none] S
  have g : ∀ (k : Nat) (hk : k < 10), L2.atI (xs.map D.int) (k : Int) = some (.int (xs[k]'(by omega))) := fun k hk => at_map (List.getElem?_eq_getElem (by omega))
  have e0 : L2.atI (xs.map D.int) 0 = some (.int (xs[0]'(by omega))) := g 0 (by omega)
  have e3 : L2.atI (xs.map D.int) 3 = some (.int (xs[3]'(by omega))) := g 3 (by omega)
  generalize xs[0]'(by omega) = x0 at e0
  generalize xs[3]'(by omega) = x3 at e3
  obtain ⟨n1, n2, se, m1, m2, si, up, rg1, rg2, rs1, rs2, cg1, cg2, cs1, cs2⟩ := hu
  have q0 := Int.emod_nonneg x0 (show u.cg + 1 ≠ 0 by omega)
  have q1 := Int.emod_lt_of_pos x0 (show 0 < u.cg + 1 by omega)
  have q2 := Int.emod_nonneg x3 (show u.cs + 1 ≠ 0 by omega)
  have q3 := Int.emod_lt_of_pos x3 (show 0 < u.cs + 1 by omega)
  simp -implicitDefEqProofs only [b_law_comers, wSs, wS, wE, wA, wP, wI, wIfs, tgNm, tgTup, tgNil, tgCons, getS, setS, optW_some, conD, negD, wip0, wipC, List.set_cons_zero, List.set_cons_succ, cmpLt, cmpLe, cmpGt, cmpGe, cmpEq, cmpNe, cmpIs, cmpIsN, cmpIn, cmpNotIn, binAdd, binSub, lenTup, lenLst, biMax, biMin, biInt, biIntB, tupTup, tupLst, lstTup, lstLst, ixT, ixL, slTup, slLst, atI0, atI1, atI2, atI3, atI4, atI5, isiTup, isiLst, seqTup, seqLst, lstOfLst, gOfTup, gOfLst, lstOfS, seqOfS, lenS, tupS, lstS, ixS, Sto.set_same, Sto.set_set, eqInt, eqStr, eqNil, isNon, Option.map_some, List.length_cons, List.length_nil, List.length_map, e0]
  rw [binMod (by omega)]
  try simp -implicitDefEqProofs only [wSs, wS, wE, wA, wP, wI, wIfs, tgNm, tgTup, tgNil, tgCons, getS, setS, optW_some, conD, negD, wip0, wipC, List.set_cons_zero, List.set_cons_succ, cmpLt, cmpLe, cmpGt, cmpGe, cmpEq, cmpNe, cmpIs, cmpIsN, cmpIn, cmpNotIn, binAdd, binSub, lenTup, lenLst, biMax, biMin, biInt, biIntB, tupTup, tupLst, lstTup, lstLst, ixT, ixL, slTup, slLst, atI0, atI1, atI2, atI3, atI4, atI5, isiTup, isiLst, seqTup, seqLst, lstOfLst, gOfTup, gOfLst, lstOfS, seqOfS, lenS, tupS, lstS, ixS, Sto.set_same, Sto.set_set, eqInt, eqStr, eqNil, isNon, Option.map_some, List.length_cons, List.length_nil, List.length_map]
  rw [cut_midI (by decide) (by omega), ← List.map_take, ← List.map_drop]
  have hpick : ∀ x : Int, ∃ y, y ∈ u.sizes ∧ L2.atI (u.sizes.map D.int) (x % (u.sizes.length : Int)) = some (.int y) := by
    intro x
    have b1 := Int.emod_nonneg x (show (u.sizes.length : Int) ≠ 0 by omega)
    have b2 := Int.emod_lt_of_pos x (show (0 : Int) < u.sizes.length by omega)
    have b3 : (x % (u.sizes.length : Int)).toNat < u.sizes.length := by omega
    refine ⟨u.sizes[(x % (u.sizes.length : Int)).toNat], List.getElem_mem _, ?_⟩
    have := at_map (f := D.int) (List.getElem?_eq_getElem b3)
    rwa [Int.toNat_of_nonneg b1] at this
  let pk : Int → Int := fun x => Classical.choose (hpick x)
  have hpk : ∀ x, pk x ∈ u.sizes ∧ L2.atI (u.sizes.map D.int) (x % (u.sizes.length : Int)) = some (.int (pk x)) := fun x => Classical.choose_spec (hpick x)
  refine lcW_map (f := fun d => match d with | .int x => .int (pk x) | _ => .non) ?_ trivial ?_
  · intro d hd R' hR
    obtain ⟨n, hn, rfl⟩ := List.mem_map.mp hd
    try simp -implicitDefEqProofs only [wSs, wS, wE, wA, wP, wI, wIfs, tgNm, tgTup, tgNil, tgCons, getS, setS, optW_some, conD, negD, wip0, wipC, List.set_cons_zero, List.set_cons_succ, cmpLt, cmpLe, cmpGt, cmpGe, cmpEq, cmpNe, cmpIs, cmpIsN, cmpIn, cmpNotIn, binAdd, binSub, lenTup, lenLst, biMax, biMin, biInt, biIntB, tupTup, tupLst, lstTup, lstLst, ixT, ixL, slTup, slLst, atI0, atI1, atI2, atI3, atI4, atI5, isiTup, isiLst, seqTup, seqLst, lstOfLst, gOfTup, gOfLst, lstOfS, seqOfS, lenS, tupS, lstS, ixS, Sto.set_same, Sto.set_set, eqInt, eqStr, eqNil, isNon, Option.map_some, List.length_cons, List.length_nil, List.length_map]
    rw [binMod (by omega)]
    simp -implicitDefEqProofs only [wSs, wS, wE, wA, wP, wI, wIfs, tgNm, tgTup, tgNil, tgCons, getS, setS, optW_some, conD, negD, wip0, wipC, List.set_cons_zero, List.set_cons_succ, cmpLt, cmpLe, cmpGt, cmpGe, cmpEq, cmpNe, cmpIs, cmpIsN, cmpIn, cmpNotIn, binAdd, binSub, lenTup, lenLst, biMax, biMin, biInt, biIntB, tupTup, tupLst, lstTup, lstLst, ixT, ixL, slTup, slLst, atI0, atI1, atI2, atI3, atI4, atI5, isiTup, isiLst, seqTup, seqLst, lstOfLst, gOfTup, gOfLst, lstOfS, seqOfS, lenS, tupS, lstS, ixS, Sto.set_same, Sto.set_set, eqInt, eqStr, eqNil, isNon, Option.map_some, List.length_cons, List.length_nil, List.length_map, (hpk n).2]
    exact hR
  simp -implicitDefEqProofs only [List.nil_append, List.map_map]
  rw [show ((fun d => match d with | D.int x => D.int (pk x) | _ => D.non) ∘ D.int) = (D.int ∘ pk) from rfl, ← List.map_map]
  simp -implicitDefEqProofs only [wSs, wS, wE, wA, wP, wI, wIfs, tgNm, tgTup, tgNil, tgCons, getS, setS, optW_some, conD, negD, wip0, wipC, List.set_cons_zero, List.set_cons_succ, cmpLt, cmpLe, cmpGt, cmpGe, cmpEq, cmpNe, cmpIs, cmpIsN, cmpIn, cmpNotIn, binAdd, binSub, lenTup, lenLst, biMax, biMin, biInt, biIntB, tupTup, tupLst, lstTup, lstLst, ixT, ixL, slTup, slLst, atI0, atI1, atI2, atI3, atI4, atI5, isiTup, isiLst, seqTup, seqLst, lstOfLst, gOfTup, gOfLst, lstOfS, seqOfS, lenS, tupS, lstS, ixS, Sto.set_same, Sto.set_set, eqInt, eqStr, eqNil, isNon, Option.map_some, List.length_cons, List.length_nil, List.length_map, e3]
  rw [binMod (by omega)]
  try simp -implicitDefEqProofs only [wSs, wS, wE, wA, wP, wI, wIfs, tgNm, tgTup, tgNil, tgCons, getS, setS, optW_some, conD, negD, wip0, wipC, List.set_cons_zero, List.set_cons_succ, cmpLt, cmpLe, cmpGt, cmpGe, cmpEq, cmpNe, cmpIs, cmpIsN, cmpIn, cmpNotIn, binAdd, binSub, lenTup, lenLst, biMax, biMin, biInt, biIntB, tupTup, tupLst, lstTup, lstLst, ixT, ixL, slTup, slLst, atI0, atI1, atI2, atI3, atI4, atI5, isiTup, isiLst, seqTup, seqLst, lstOfLst, gOfTup, gOfLst, lstOfS, seqOfS, lenS, tupS, lstS, ixS, Sto.set_same, Sto.set_set, eqInt, eqStr, eqNil, isNon, Option.map_some, List.length_cons, List.length_nil, List.length_map]
  refine h (_, _) ⟨?_, ?_, q2, ?_⟩
  · simp -implicitDefEqProofs only [List.length_map, List.length_drop, List.length_take]; omega
  · intro x hx
    obtain ⟨y, _, rfl⟩ := List.mem_map.mp hx
    exact (hpk y).1
  · show x3 % (u.cs + 1) ≤ u.cs
    omega
theorem c_law_whole {d : D} {S : Sto} {R : QD} {E : XP} (hv : val d = true) (h : R (.bl (isInt d)) S) : (Γ 33).sp [d] S R E := ⟨_, rfl, hv, h⟩
theorem p_law_whole : Kept sp_law_whole b_law_whole 1 := p_is_integer
theorem c_law_arrive {u : Su} {line : List Int} {s : Int} {c : Com} {S : Sto} {R : QD} {E : XP} (h1 : line.length ≤ 1000) (h2 : c.1.length ≤ 1000) (h : R (.tup [iv ((line ++ c.1).take (max u.rg line.length).toNat), .int (min u.rs (s + c.2))]) S) : (Γ 28).sp [u.d, iv line, .int s, comD c] S R E := ⟨_, _, _, _, rfl, h1, h2, h⟩
theorem p_law_arrive : Kept sp_law_arrive b_law_arrive 5 := by
  rintro ds S R E ⟨u, line, s, c, rfl, h1, h2, h⟩
  show wSs Γ Ct E b_law_arrive (KR R) [some u.d, some (.tup (line.map D.int)), some (.int s), some (.tup [.tup (c.1.map D.int), .int c.2]), none] S
  have hu' : u.d = .tup [iv u.seats, iv u.sizes, .tup [.int u.rg, .int u.rs], .tup [.int u.cg, .int u.cs]] := rfl
  simp -implicitDefEqProofs only [b_law_arrive, wSs, wS, wE, wA, wP, wI, wIfs, tgNm, tgTup, tgNil, tgCons, getS, setS, optW_some, conD, negD, wip0, wipC, List.set_cons_zero, List.set_cons_succ, cmpLt, cmpLe, cmpGt, cmpGe, cmpEq, cmpNe, cmpIs, cmpIsN, cmpIn, cmpNotIn, binAdd, binSub, lenTup, lenLst, biMax, biMin, biInt, biIntB, tupTup, tupLst, lstTup, lstLst, ixT, ixL, slTup, slLst, atI0, atI1, atI2, atI3, atI4, atI5, isiTup, isiLst, seqTup, seqLst, lstOfLst, gOfTup, gOfLst, lstOfS, seqOfS, lenS, tupS, lstS, ixS, Sto.set_same, Sto.set_set, eqInt, eqStr, eqNil, isNon, Option.map_some, List.length_cons, List.length_nil, List.length_map]
  refine forW_inv (fun ds' st S' => S' = S ∧ ∃ (l ws : List Int) (y1 : Option D), ds' = ws.map D.int ∧ l.length + ws.length ≤ 2000 ∧ (l ++ ws).take (max u.rg l.length).toNat = (line ++ c.1).take (max u.rg line.length).toNat ∧ st = [some u.d, some (.tup (l.map D.int)), some (.int s), some (.tup [.tup (c.1.map D.int), .int c.2]), y1]) ?_ ?_ ?_
  · rintro d' ds' st S' nxt ⟨rfl, l, ws, y1, hds, hlen, hA, rfl⟩ hn
    cases ws with
    | nil => cases hds
    | cons w ws =>
      rw [List.map_cons, List.cons.injEq] at hds
      obtain ⟨rfl, rfl⟩ := hds
      refine ⟨trivial, ?_⟩
      try simp -implicitDefEqProofs only [wSs, wS, wE, wA, wP, wI, wIfs, tgNm, tgTup, tgNil, tgCons, getS, setS, optW_some, conD, negD, wip0, wipC, List.set_cons_zero, List.set_cons_succ, cmpLt, cmpLe, cmpGt, cmpGe, cmpEq, cmpNe, cmpIs, cmpIsN, cmpIn, cmpNotIn, binAdd, binSub, lenTup, lenLst, biMax, biMin, biInt, biIntB, tupTup, tupLst, lstTup, lstLst, ixT, ixL, slTup, slLst, atI0, atI1, atI2, atI3, atI4, atI5, isiTup, isiLst, seqTup, seqLst, lstOfLst, gOfTup, gOfLst, lstOfS, seqOfS, lenS, tupS, lstS, ixS, Sto.set_same, Sto.set_set, eqInt, eqStr, eqNil, isNon, Option.map_some, List.length_cons, List.length_nil, List.length_map]
      rw [hu']
      try simp -implicitDefEqProofs only [wSs, wS, wE, wA, wP, wI, wIfs, tgNm, tgTup, tgNil, tgCons, getS, setS, optW_some, conD, negD, wip0, wipC, List.set_cons_zero, List.set_cons_succ, cmpLt, cmpLe, cmpGt, cmpGe, cmpEq, cmpNe, cmpIs, cmpIsN, cmpIn, cmpNotIn, binAdd, binSub, lenTup, lenLst, biMax, biMin, biInt, biIntB, tupTup, tupLst, lstTup, lstLst, ixT, ixL, slTup, slLst, atI0, atI1, atI2, atI3, atI4, atI5, isiTup, isiLst, seqTup, seqLst, lstOfLst, gOfTup, gOfLst, lstOfS, seqOfS, lenS, tupS, lstS, ixS, Sto.set_same, Sto.set_set, eqInt, eqStr, eqNil, isNon, Option.map_some, List.length_cons, List.length_nil, List.length_map]
      by_cases q : (l.length : Int) < u.rg
      · simp -implicitDefEqProofs only [decide_eq_true q, if_true, if_false, Bool.false_eq_true, Bool.not_true, Bool.not_false, reduceIte, decide_true, decide_false, Bool.and_self, wSs, wS, wE, wA, wP, wI, wIfs, tgNm, tgTup, tgNil, tgCons, getS, setS, optW_some, conD, negD, wip0, wipC, List.set_cons_zero, List.set_cons_succ, cmpLt, cmpLe, cmpGt, cmpGe, cmpEq, cmpNe, cmpIs, cmpIsN, cmpIn, cmpNotIn, binAdd, binSub, lenTup, lenLst, biMax, biMin, biInt, biIntB, tupTup, tupLst, lstTup, lstLst, ixT, ixL, slTup, slLst, atI0, atI1, atI2, atI3, atI4, atI5, isiTup, isiLst, seqTup, seqLst, lstOfLst, gOfTup, gOfLst, lstOfS, seqOfS, lenS, tupS, lstS, ixS, Sto.set_same, Sto.set_set, eqInt, eqStr, eqNil, isNon, Option.map_some, List.length_cons, List.length_nil, List.length_map]
        rw [binTup (by simp at hlen ⊢; omega)]
        try simp -implicitDefEqProofs only [wSs, wS, wE, wA, wP, wI, wIfs, tgNm, tgTup, tgNil, tgCons, getS, setS, optW_some, conD, negD, wip0, wipC, List.set_cons_zero, List.set_cons_succ, cmpLt, cmpLe, cmpGt, cmpGe, cmpEq, cmpNe, cmpIs, cmpIsN, cmpIn, cmpNotIn, binAdd, binSub, lenTup, lenLst, biMax, biMin, biInt, biIntB, tupTup, tupLst, lstTup, lstLst, ixT, ixL, slTup, slLst, atI0, atI1, atI2, atI3, atI4, atI5, isiTup, isiLst, seqTup, seqLst, lstOfLst, gOfTup, gOfLst, lstOfS, seqOfS, lenS, tupS, lstS, ixS, Sto.set_same, Sto.set_set, eqInt, eqStr, eqNil, isNon, Option.map_some, List.length_cons, List.length_nil, List.length_map]
        refine hn _ _ ⟨rfl, l ++ [w], ws, _, rfl, by simp at hlen ⊢; omega, ?_, by rw [List.map_append]; rfl⟩
        rw [← hA, List.append_assoc]
        congr 1
        simp
        omega
      · simp -implicitDefEqProofs only [decide_eq_false q, if_true, if_false, Bool.false_eq_true, Bool.not_true, Bool.not_false, reduceIte, decide_true, decide_false, Bool.and_self, wSs, wS, wE, wA, wP, wI, wIfs, tgNm, tgTup, tgNil, tgCons, getS, setS, optW_some, conD, negD, wip0, wipC, List.set_cons_zero, List.set_cons_succ, cmpLt, cmpLe, cmpGt, cmpGe, cmpEq, cmpNe, cmpIs, cmpIsN, cmpIn, cmpNotIn, binAdd, binSub, lenTup, lenLst, biMax, biMin, biInt, biIntB, tupTup, tupLst, lstTup, lstLst, ixT, ixL, slTup, slLst, atI0, atI1, atI2, atI3, atI4, atI5, isiTup, isiLst, seqTup, seqLst, lstOfLst, gOfTup, gOfLst, lstOfS, seqOfS, lenS, tupS, lstS, ixS, Sto.set_same, Sto.set_set, eqInt, eqStr, eqNil, isNon, Option.map_some, List.length_cons, List.length_nil, List.length_map]
        refine hn _ _ ⟨rfl, l, ws, _, rfl, by simp at hlen ⊢; omega, ?_, rfl⟩
        rw [← hA]
        have : (max u.rg (l.length : Int)).toNat = l.length := by omega
        rw [this, List.take_append_of_le_length (Nat.le_refl _), List.take_append_of_le_length (Nat.le_refl _)]
  · rintro st S' ⟨rfl, l, ws, y1, hds, hlen, hA, rfl⟩
    cases ws with
    | cons => cases hds
    | nil =>
      refine ⟨trivial, ?_⟩
      try simp -implicitDefEqProofs only [wSs, wS, wE, wA, wP, wI, wIfs, tgNm, tgTup, tgNil, tgCons, getS, setS, optW_some, conD, negD, wip0, wipC, List.set_cons_zero, List.set_cons_succ, cmpLt, cmpLe, cmpGt, cmpGe, cmpEq, cmpNe, cmpIs, cmpIsN, cmpIn, cmpNotIn, binAdd, binSub, lenTup, lenLst, biMax, biMin, biInt, biIntB, tupTup, tupLst, lstTup, lstLst, ixT, ixL, slTup, slLst, atI0, atI1, atI2, atI3, atI4, atI5, isiTup, isiLst, seqTup, seqLst, lstOfLst, gOfTup, gOfLst, lstOfS, seqOfS, lenS, tupS, lstS, ixS, Sto.set_same, Sto.set_set, eqInt, eqStr, eqNil, isNon, Option.map_some, List.length_cons, List.length_nil, List.length_map]
      rw [hu']
      try simp -implicitDefEqProofs only [wSs, wS, wE, wA, wP, wI, wIfs, tgNm, tgTup, tgNil, tgCons, getS, setS, optW_some, conD, negD, wip0, wipC, List.set_cons_zero, List.set_cons_succ, cmpLt, cmpLe, cmpGt, cmpGe, cmpEq, cmpNe, cmpIs, cmpIsN, cmpIn, cmpNotIn, binAdd, binSub, lenTup, lenLst, biMax, biMin, biInt, biIntB, tupTup, tupLst, lstTup, lstLst, ixT, ixL, slTup, slLst, atI0, atI1, atI2, atI3, atI4, atI5, isiTup, isiLst, seqTup, seqLst, lstOfLst, gOfTup, gOfLst, lstOfS, seqOfS, lenS, tupS, lstS, ixS, Sto.set_same, Sto.set_set, eqInt, eqStr, eqNil, isNon, Option.map_some, List.length_cons, List.length_nil, List.length_map]
      rw [← hA, List.append_nil, List.take_of_length_le (by omega)] at h
      exact h
  · exact ⟨rfl, line, c.1, _, rfl, by omega, rfl, rfl⟩
theorem c_law_ways {line : List Int} {l s p : Int} {S : Sto} {R : QD} {E : XP} (hl : line.length ≤ 1000) (h : R (.lst ((waysOf line l s p).map deedD)) S) : (Γ 21).sp [iv line, .int l, .int s, .int p] S R E := ⟨_, _, _, _, rfl, hl, h⟩
theorem p_law_ways : Kept sp_law_ways b_law_ways 6 := by
  rintro ds S R E ⟨line, l, s, p, rfl, hl, h⟩
  show wSs Γ Ct E b_law_ways (KR R) [some (.tup (line.map D.int)), some (.int l), some (.int s), some (.int p), none, none] S
  simp -implicitDefEqProofs only [b_law_ways, wSs, wS, wE, wA, wP, wI, wIfs, tgNm, tgTup, tgNil, tgCons, getS, setS, optW_some, conD, negD, wip0, wipC, List.set_cons_zero, List.set_cons_succ, cmpLt, cmpLe, cmpGt, cmpGe, cmpEq, cmpNe, cmpIs, cmpIsN, cmpIn, cmpNotIn, binAdd, binSub, lenTup, lenLst, biMax, biMin, biInt, biIntB, tupTup, tupLst, lstTup, lstLst, ixT, ixL, slTup, slLst, atI0, atI1, atI2, atI3, atI4, atI5, isiTup, isiLst, seqTup, seqLst, lstOfLst, gOfTup, gOfLst, lstOfS, seqOfS, lenS, tupS, lstS, ixS, Sto.set_same, Sto.set_set, eqInt, eqStr, eqNil, isNon, Option.map_some, List.length_cons, List.length_nil, List.length_map]
  rw [binTup (by simp; omega)]
  have hf : L2.atI (line.map D.int ++ [.int 0]) 0 = some (.int (front line)) := by
    cases line with
    | nil => rfl
    | cons x line => exact atI0
  simp -implicitDefEqProofs only [wSs, wS, wE, wA, wP, wI, wIfs, tgNm, tgTup, tgNil, tgCons, getS, setS, optW_some, conD, negD, wip0, wipC, List.set_cons_zero, List.set_cons_succ, cmpLt, cmpLe, cmpGt, cmpGe, cmpEq, cmpNe, cmpIs, cmpIsN, cmpIn, cmpNotIn, binAdd, binSub, lenTup, lenLst, biMax, biMin, biInt, biIntB, tupTup, tupLst, lstTup, lstLst, ixT, ixL, slTup, slLst, atI0, atI1, atI2, atI3, atI4, atI5, isiTup, isiLst, seqTup, seqLst, lstOfLst, gOfTup, gOfLst, lstOfS, seqOfS, lenS, tupS, lstS, ixS, Sto.set_same, Sto.set_set, eqInt, eqStr, eqNil, isNon, Option.map_some, List.length_cons, List.length_nil, List.length_map, hf]
  intro a ha
  unfold waysOf at h
  by_cases q1 : 0 < front line <;> by_cases q2 : front line ≤ l <;> by_cases q3 : 0 < s <;> by_cases q4 : 0 < l <;> by_cases q5 : l < front line <;> by_cases q6 : 0 < p
  all_goals first
    | omega
    | (simp -implicitDefEqProofs only [q1, q2, q3, q4, q5, q6, and_self, and_false, false_and, and_true, if_true, if_false, Bool.false_eq_true, Bool.not_true, Bool.not_false, reduceIte, decide_true, decide_false, Bool.and_self, List.map_append, List.map_cons, List.map_nil, List.nil_append, List.append_nil, List.cons_append, List.append_assoc] at h
       simp -implicitDefEqProofs only [q1, q2, q3, q4, q5, q6, if_true, if_false, Bool.false_eq_true, Bool.not_true, Bool.not_false, reduceIte, decide_true, decide_false, Bool.and_self, wSs, wS, wE, wA, wP, wI, wIfs, tgNm, tgTup, tgNil, tgCons, getS, setS, optW_some, conD, negD, wip0, wipC, List.set_cons_zero, List.set_cons_succ, cmpLt, cmpLe, cmpGt, cmpGe, cmpEq, cmpNe, cmpIs, cmpIsN, cmpIn, cmpNotIn, binAdd, binSub, lenTup, lenLst, biMax, biMin, biInt, biIntB, tupTup, tupLst, lstTup, lstLst, ixT, ixL, slTup, slLst, atI0, atI1, atI2, atI3, atI4, atI5, isiTup, isiLst, seqTup, seqLst, lstOfLst, gOfTup, gOfLst, lstOfS, seqOfS, lenS, tupS, lstS, ixS, Sto.set_same, Sto.set_set, eqInt, eqStr, eqNil, isNon, Option.map_some, List.length_cons, List.length_nil, List.length_map]
       repeat rw [meAppS (by simp)]
       try simp -implicitDefEqProofs only [if_true, if_false, Bool.false_eq_true, Bool.not_true, Bool.not_false, reduceIte, decide_true, decide_false, Bool.and_self, wSs, wS, wE, wA, wP, wI, wIfs, tgNm, tgTup, tgNil, tgCons, getS, setS, optW_some, conD, negD, wip0, wipC, List.set_cons_zero, List.set_cons_succ, cmpLt, cmpLe, cmpGt, cmpGe, cmpEq, cmpNe, cmpIs, cmpIsN, cmpIn, cmpNotIn, binAdd, binSub, lenTup, lenLst, biMax, biMin, biInt, biIntB, tupTup, tupLst, lstTup, lstLst, ixT, ixL, slTup, slLst, atI0, atI1, atI2, atI3, atI4, atI5, isiTup, isiLst, seqTup, seqLst, lstOfLst, gOfTup, gOfLst, lstOfS, seqOfS, lenS, tupS, lstS, ixS, Sto.set_same, Sto.set_set, eqInt, eqStr, eqNil, isNon, Option.map_some, List.length_cons, List.length_nil, List.length_map]
       repeat rw [meAppS (by simp)]
       try simp -implicitDefEqProofs only [if_true, if_false, Bool.false_eq_true, Bool.not_true, Bool.not_false, reduceIte, decide_true, decide_false, Bool.and_self, wSs, wS, wE, wA, wP, wI, wIfs, tgNm, tgTup, tgNil, tgCons, getS, setS, optW_some, conD, negD, wip0, wipC, List.set_cons_zero, List.set_cons_succ, cmpLt, cmpLe, cmpGt, cmpGe, cmpEq, cmpNe, cmpIs, cmpIsN, cmpIn, cmpNotIn, binAdd, binSub, lenTup, lenLst, biMax, biMin, biInt, biIntB, tupTup, tupLst, lstTup, lstLst, ixT, ixL, slTup, slLst, atI0, atI1, atI2, atI3, atI4, atI5, isiTup, isiLst, seqTup, seqLst, lstOfLst, gOfTup, gOfLst, lstOfS, seqOfS, lenS, tupS, lstS, ixS, Sto.set_same, Sto.set_set, eqInt, eqStr, eqNil, isNon, Option.map_some, List.length_cons, List.length_nil, List.length_map]
       repeat rw [meAppS (by simp)]
       try simp -implicitDefEqProofs only [if_true, if_false, Bool.false_eq_true, Bool.not_true, Bool.not_false, reduceIte, decide_true, decide_false, Bool.and_self, wSs, wS, wE, wA, wP, wI, wIfs, tgNm, tgTup, tgNil, tgCons, getS, setS, optW_some, conD, negD, wip0, wipC, List.set_cons_zero, List.set_cons_succ, cmpLt, cmpLe, cmpGt, cmpGe, cmpEq, cmpNe, cmpIs, cmpIsN, cmpIn, cmpNotIn, binAdd, binSub, lenTup, lenLst, biMax, biMin, biInt, biIntB, tupTup, tupLst, lstTup, lstLst, ixT, ixL, slTup, slLst, atI0, atI1, atI2, atI3, atI4, atI5, isiTup, isiLst, seqTup, seqLst, lstOfLst, gOfTup, gOfLst, lstOfS, seqOfS, lenS, tupS, lstS, ixS, Sto.set_same, Sto.set_set, eqInt, eqStr, eqNil, isNon, Option.map_some, List.length_cons, List.length_nil, List.length_map]
       rw [Sto.del_set ha]
       exact h)
theorem c_law_done {e : Deed} {line : List Int} {l s p : Int} {S : Sto} {R : QD} {E : XP} (hl : line.length ≤ 1000) (he : e.1 ≠ kG → e.1 ≠ kS → line ≠ []) (h : R (fourD (doneOf e line l s p)) S) : (Γ 22).sp [deedD e, iv line, .int l, .int s, .int p] S R E := ⟨_, _, _, _, _, rfl, hl, he, h⟩
theorem p_law_done : Kept sp_law_done b_law_done 5 := by
  rintro ds S R E ⟨e, line, l, s, p, rfl, hl, he, h⟩
  show wSs Γ Ct E b_law_done (KR R) [some (.tup [.str e.1, .int e.2]), some (.tup (line.map D.int)), some (.int l), some (.int s), some (.int p)] S
  simp -implicitDefEqProofs only [b_law_done, wSs, wS, wE, wA, wP, wI, wIfs, tgNm, tgTup, tgNil, tgCons, getS, setS, optW_some, conD, negD, wip0, wipC, List.set_cons_zero, List.set_cons_succ, cmpLt, cmpLe, cmpGt, cmpGe, cmpEq, cmpNe, cmpIs, cmpIsN, cmpIn, cmpNotIn, binAdd, binSub, lenTup, lenLst, biMax, biMin, biInt, biIntB, tupTup, tupLst, lstTup, lstLst, ixT, ixL, slTup, slLst, atI0, atI1, atI2, atI3, atI4, atI5, isiTup, isiLst, seqTup, seqLst, lstOfLst, gOfTup, gOfLst, lstOfS, seqOfS, lenS, tupS, lstS, ixS, Sto.set_same, Sto.set_set, eqInt, eqStr, eqNil, isNon, Option.map_some, List.length_cons, List.length_nil, List.length_map]
  unfold doneOf at h
  by_cases a : e.1 = kG
  · simp -implicitDefEqProofs only [a, if_true, if_false, Bool.false_eq_true, Bool.not_true, Bool.not_false, reduceIte, decide_true, decide_false, Bool.and_self, wSs, wS, wE, wA, wP, wI, wIfs, tgNm, tgTup, tgNil, tgCons, getS, setS, optW_some, conD, negD, wip0, wipC, List.set_cons_zero, List.set_cons_succ, cmpLt, cmpLe, cmpGt, cmpGe, cmpEq, cmpNe, cmpIs, cmpIsN, cmpIn, cmpNotIn, binAdd, binSub, lenTup, lenLst, biMax, biMin, biInt, biIntB, tupTup, tupLst, lstTup, lstLst, ixT, ixL, slTup, slLst, atI0, atI1, atI2, atI3, atI4, atI5, isiTup, isiLst, seqTup, seqLst, lstOfLst, gOfTup, gOfLst, lstOfS, seqOfS, lenS, tupS, lstS, ixS, Sto.set_same, Sto.set_set, eqInt, eqStr, eqNil, isNon, Option.map_some, List.length_cons, List.length_nil, List.length_map] at h ⊢
    rw [show (1 : Int) = ((1 : Nat) : Int) from rfl, cut_from, ← List.map_drop, List.drop_one]
    exact h
  by_cases b : e.1 = kS
  · simp -implicitDefEqProofs only [a, b, if_true, if_false, Bool.false_eq_true, Bool.not_true, Bool.not_false, reduceIte, decide_true, decide_false, Bool.and_self, wSs, wS, wE, wA, wP, wI, wIfs, tgNm, tgTup, tgNil, tgCons, getS, setS, optW_some, conD, negD, wip0, wipC, List.set_cons_zero, List.set_cons_succ, cmpLt, cmpLe, cmpGt, cmpGe, cmpEq, cmpNe, cmpIs, cmpIsN, cmpIn, cmpNotIn, binAdd, binSub, lenTup, lenLst, biMax, biMin, biInt, biIntB, tupTup, tupLst, lstTup, lstLst, ixT, ixL, slTup, slLst, atI0, atI1, atI2, atI3, atI4, atI5, isiTup, isiLst, seqTup, seqLst, lstOfLst, gOfTup, gOfLst, lstOfS, seqOfS, lenS, tupS, lstS, ixS, Sto.set_same, Sto.set_set, eqInt, eqStr, eqNil, isNon, Option.map_some, List.length_cons, List.length_nil, List.length_map] at h ⊢
    exact h
  · simp -implicitDefEqProofs only [a, b, if_true, if_false, Bool.false_eq_true, Bool.not_true, Bool.not_false, reduceIte, decide_true, decide_false, Bool.and_self, wSs, wS, wE, wA, wP, wI, wIfs, tgNm, tgTup, tgNil, tgCons, getS, setS, optW_some, conD, negD, wip0, wipC, List.set_cons_zero, List.set_cons_succ, cmpLt, cmpLe, cmpGt, cmpGe, cmpEq, cmpNe, cmpIs, cmpIsN, cmpIn, cmpNotIn, binAdd, binSub, lenTup, lenLst, biMax, biMin, biInt, biIntB, tupTup, tupLst, lstTup, lstLst, ixT, ixL, slTup, slLst, atI0, atI1, atI2, atI3, atI4, atI5, isiTup, isiLst, seqTup, seqLst, lstOfLst, gOfTup, gOfLst, lstOfS, seqOfS, lenS, tupS, lstS, ixS, Sto.set_same, Sto.set_set, eqInt, eqStr, eqNil, isNon, Option.map_some, List.length_cons, List.length_nil, List.length_map] at h ⊢
    cases line with
    | nil => exact absurd rfl (he a b)
    | cons x line =>
      simp -implicitDefEqProofs only [List.map_cons, wSs, wS, wE, wA, wP, wI, wIfs, tgNm, tgTup, tgNil, tgCons, getS, setS, optW_some, conD, negD, wip0, wipC, List.set_cons_zero, List.set_cons_succ, cmpLt, cmpLe, cmpGt, cmpGe, cmpEq, cmpNe, cmpIs, cmpIsN, cmpIn, cmpNotIn, binAdd, binSub, lenTup, lenLst, biMax, biMin, biInt, biIntB, tupTup, tupLst, lstTup, lstLst, ixT, ixL, slTup, slLst, atI0, atI1, atI2, atI3, atI4, atI5, isiTup, isiLst, seqTup, seqLst, lstOfLst, gOfTup, gOfLst, lstOfS, seqOfS, lenS, tupS, lstS, ixS, Sto.set_same, Sto.set_set, eqInt, eqStr, eqNil, isNon, Option.map_some, List.length_cons, List.length_nil, List.length_map]
      rw [← List.map_cons, iv_cut1, binTup (by simp at hl ⊢; omega)]
      exact h
theorem c_law_lost {line : List Int} {l s : Int} {S : Sto} {R : QD} {E : XP} (h : R (.int (lostOf line s l)) S) : (Γ 30).sp [iv line, .int l, .int s] S R E := ⟨_, _, _, rfl, h⟩
theorem p_law_lost : Kept sp_law_lost b_law_lost 3 := by
  rintro ds S R E ⟨line, l, s, rfl, h⟩
  show wSs Γ Ct E b_law_lost (KR R) [some (.tup (line.map D.int)), some (.int l), some (.int s)] S
  simp -implicitDefEqProofs only [b_law_lost, wSs, wS, wE, wA, wP, wI, wIfs, tgNm, tgTup, tgNil, tgCons, getS, setS, optW_some, conD, negD, wip0, wipC, List.set_cons_zero, List.set_cons_succ, cmpLt, cmpLe, cmpGt, cmpGe, cmpEq, cmpNe, cmpIs, cmpIsN, cmpIn, cmpNotIn, binAdd, binSub, lenTup, lenLst, biMax, biMin, biInt, biIntB, tupTup, tupLst, lstTup, lstLst, ixT, ixL, slTup, slLst, atI0, atI1, atI2, atI3, atI4, atI5, isiTup, isiLst, seqTup, seqLst, lstOfLst, gOfTup, gOfLst, lstOfS, seqOfS, lenS, tupS, lstS, ixS, Sto.set_same, Sto.set_set, eqInt, eqStr, eqNil, isNon, Option.map_some, List.length_cons, List.length_nil, List.length_map]
  unfold lostOf at h
  by_cases a : line = []
  · by_cases b : s = 0
    · simp -implicitDefEqProofs only [a, b, and_self, List.map_nil, if_true, if_false, Bool.false_eq_true, Bool.not_true, Bool.not_false, reduceIte, decide_true, decide_false, Bool.and_self, wSs, wS, wE, wA, wP, wI, wIfs, tgNm, tgTup, tgNil, tgCons, getS, setS, optW_some, conD, negD, wip0, wipC, List.set_cons_zero, List.set_cons_succ, cmpLt, cmpLe, cmpGt, cmpGe, cmpEq, cmpNe, cmpIs, cmpIsN, cmpIn, cmpNotIn, binAdd, binSub, lenTup, lenLst, biMax, biMin, biInt, biIntB, tupTup, tupLst, lstTup, lstLst, ixT, ixL, slTup, slLst, atI0, atI1, atI2, atI3, atI4, atI5, isiTup, isiLst, seqTup, seqLst, lstOfLst, gOfTup, gOfLst, lstOfS, seqOfS, lenS, tupS, lstS, ixS, Sto.set_same, Sto.set_set, eqInt, eqStr, eqNil, isNon, Option.map_some, List.length_cons, List.length_nil, List.length_map] at h ⊢; exact h
    · simp -implicitDefEqProofs only [a, b, and_false, List.map_nil, if_true, if_false, Bool.false_eq_true, Bool.not_true, Bool.not_false, reduceIte, decide_true, decide_false, Bool.and_self, wSs, wS, wE, wA, wP, wI, wIfs, tgNm, tgTup, tgNil, tgCons, getS, setS, optW_some, conD, negD, wip0, wipC, List.set_cons_zero, List.set_cons_succ, cmpLt, cmpLe, cmpGt, cmpGe, cmpEq, cmpNe, cmpIs, cmpIsN, cmpIn, cmpNotIn, binAdd, binSub, lenTup, lenLst, biMax, biMin, biInt, biIntB, tupTup, tupLst, lstTup, lstLst, ixT, ixL, slTup, slLst, atI0, atI1, atI2, atI3, atI4, atI5, isiTup, isiLst, seqTup, seqLst, lstOfLst, gOfTup, gOfLst, lstOfS, seqOfS, lenS, tupS, lstS, ixS, Sto.set_same, Sto.set_set, eqInt, eqStr, eqNil, isNon, Option.map_some, List.length_cons, List.length_nil, List.length_map] at h ⊢; exact h
  · simp -implicitDefEqProofs only [a, false_and, if_true, if_false, Bool.false_eq_true, Bool.not_true, Bool.not_false, reduceIte, decide_true, decide_false, Bool.and_self, wSs, wS, wE, wA, wP, wI, wIfs, tgNm, tgTup, tgNil, tgCons, getS, setS, optW_some, conD, negD, wip0, wipC, List.set_cons_zero, List.set_cons_succ, cmpLt, cmpLe, cmpGt, cmpGe, cmpEq, cmpNe, cmpIs, cmpIsN, cmpIn, cmpNotIn, binAdd, binSub, lenTup, lenLst, biMax, biMin, biInt, biIntB, tupTup, tupLst, lstTup, lstLst, ixT, ixL, slTup, slLst, atI0, atI1, atI2, atI3, atI4, atI5, isiTup, isiLst, seqTup, seqLst, lstOfLst, gOfTup, gOfLst, lstOfS, seqOfS, lenS, tupS, lstS, ixS, Sto.set_same, Sto.set_set, eqInt, eqStr, eqNil, isNon, Option.map_some, List.length_cons, List.length_nil, List.length_map] at h ⊢; exact h
end FC
namespace FC
open PySem PySem.Spec PyProof.Rows DL
theorem nGS : ¬ (kS = kG) := by decide +kernel
theorem nGP : ¬ (kP = kG) := by decide +kernel
theorem nSP : ¬ (kP = kS) := by decide +kernel
theorem nSG : ¬ (kG = kS) := by decide +kernel
theorem nPG : ¬ (kG = kP) := by decide +kernel
theorem nPS : ¬ (kS = kP) := by decide +kernel
theorem isDone_deed {e f : Deed} (h : isDone (deedD e) f = true) : e = f ∧ 1 ≤ e.2 ∧ e.2 ≤ 5 := by
  obtain ⟨w, n⟩ := e
  obtain ⟨w', n'⟩ := f
  simp [isDone, deedD] at h
  obtain ⟨⟨a, b⟩, c, d⟩ := h
  exact ⟨by rw [c, d], a, b⟩
theorem isDone_self {e : Deed} (h1 : 1 ≤ e.2) (h2 : e.2 ≤ 5) : isDone (deedD e) e = true := by
  simp [isDone, deedD, h1, h2]
theorem may_way {w : Str} {line : List Int} {s l p : Int} (hw : w = kG ∨ w = kS ∨ w = kP) (h : mayDo w line l s p = true) : (seat w line s l).1 ∈ waysOf line l s p := by
  unfold mayDo canDo at h
  unfold seat waysOf
  rcases hw with rfl | rfl | rfl
  · rw [if_pos rfl] at h
    simp at h
    rw [if_pos rfl, if_pos h.1]
    simp
  · rw [if_neg nGS, if_pos rfl] at h
    simp at h
    rw [if_neg nGS, if_pos rfl, if_pos h.1]
    simp
  · rw [if_neg nGP, if_neg nSP, if_pos rfl] at h
    simp at h
    rw [if_neg nGP, if_neg nSP, if_pos (show l < front line ∧ 0 < l ∧ 0 < p from ⟨h.1.1, h.1.2, h.2⟩)]
    simp
theorem afterL_way {e : Deed} {line : List Int} {s l p : Int} {y : In} : ∀ {ws : List Str}, (∀ w ∈ ws, w = kG ∨ w = kS ∨ w = kP) → afterDeedL (deedD e) line s l p ws = some y → e ∈ waysOf line l s p
  | [], _, h => by cases h
  | w :: ws, hw, h => by
    rw [afterDeedL] at h
    split at h
    · rename_i q
      rw [Bool.and_eq_true] at q
      rw [(isDone_deed q.2).1]
      exact may_way (hw w (List.mem_cons_self ..)) q.1
    · exact afterL_way (fun w h => hw w (List.mem_cons_of_mem _ h)) h
theorem after_way {e : Deed} {line : List Int} {s l p : Int} {y : In} (h : afterDeed (deedD e) (line, s, l, p) = some y) : e ∈ waysOf line l s p := afterL_way (by simp) h
theorem afterL_not {d : D} (hd : ∀ e, isDone d e = false) {line : List Int} {s l p : Int} : ∀ {ws : List Str}, afterDeedL d line s l p ws = none
  | [] => rfl
  | w :: ws => by rw [afterDeedL, if_neg (by rw [hd]; simp), afterL_not hd]
theorem after_not {d : D} (hd : ∀ e, isDone d e = false) {x : In} : afterDeed d x = none := afterL_not hd
theorem way_cases {e : Deed} {line : List Int} {s l p : Int} (h : e ∈ waysOf line l s p) :
    (e = (kG, front line) ∧ 0 < front line ∧ front line ≤ l) ∨ (e = (kS, 1) ∧ 0 < s ∧ 0 < l) ∨ (e = (kP, l) ∧ l < front line ∧ 0 < l ∧ 0 < p) := by
  unfold waysOf at h
  rcases List.mem_append.mp h with h | h
  · split at h
    · rename_i q; simp at h; exact .inl ⟨h, q⟩
    · cases h
  rcases List.mem_append.mp h with h | h
  · split at h
    · rename_i q; simp at h; exact .inr (.inl ⟨h, q⟩)
    · cases h
  · split at h
    · rename_i q; simp at h; exact .inr (.inr ⟨h, q⟩)
    · cases h
/-- a way is a deed that is taken, and leads where the law says -/
theorem way_after {e : Deed} {line : List Int} {s l p : Int} (hl : l ≤ 5) (h : e ∈ waysOf line l s p) : afterDeed (deedD e) (line, s, l, p) = some ((doneOf e line l s p).1, (doneOf e line l s p).2.2.1, (doneOf e line l s p).2.1, (doneOf e line l s p).2.2.2) := by
  unfold afterDeed
  rcases way_cases h with ⟨rfl, h1, h2⟩ | ⟨rfl, h1, h2⟩ | ⟨rfl, h1, h2, h3⟩
  · have a : seat kG line s l = ((kG, front line), line.tail, s, l - front line) := by unfold seat; rw [if_pos rfl]
    rw [afterDeedL, if_pos, a]
    · unfold doneOf
      rw [if_pos rfl, if_neg nPG]
      simp
    · rw [a, isDone_self (by show 1 ≤ front line; omega) (by show front line ≤ 5; omega)]
      unfold mayDo canDo
      rw [if_pos rfl]
      simp [h1, h2]
      exact .inl nPG
  · have a : seat kS line s l = ((kS, 1), line, s - 1, l - 1) := by unfold seat; rw [if_neg nGS, if_pos rfl]
    rw [afterDeedL, if_neg, afterDeedL, if_pos, a]
    · unfold doneOf
      rw [if_neg nGS, if_pos rfl, if_neg nPS]
      simp
    · rw [a, isDone_self (by show (1 : Int) ≤ 1; omega) (by show (1 : Int) ≤ 5; omega)]
      unfold mayDo canDo
      rw [if_neg nGS, if_pos rfl]
      simp [h1, h2]
      exact .inl nPS
    · rw [Bool.and_eq_true]
      rintro ⟨_, h⟩
      have := (isDone_deed h).1
      unfold seat at this
      rw [if_pos rfl] at this
      exact nGS (congrArg Prod.fst this)
  · have a : seat kP line s l = ((kP, l), (front line - l) :: line.tail, s, 0) := by unfold seat; rw [if_neg nGP, if_neg nSP]
    rw [afterDeedL, if_neg, afterDeedL, if_neg, afterDeedL, if_pos, a]
    · unfold doneOf
      rw [if_neg nGP, if_neg nSP, if_pos rfl]
    · rw [a, isDone_self (by show 1 ≤ l; omega) (by show l ≤ 5; omega)]
      unfold mayDo canDo
      rw [if_neg nGP, if_neg nSP, if_pos rfl]
      simp [h1, h2, h3]
    · rw [Bool.and_eq_true]
      rintro ⟨_, h⟩
      have := (isDone_deed h).1
      unfold seat at this
      rw [if_neg nGS, if_pos rfl] at this
      exact nSP (congrArg Prod.fst this)
    · rw [Bool.and_eq_true]
      rintro ⟨_, h⟩
      have := (isDone_deed h).1
      unfold seat at this
      rw [if_pos rfl] at this
      exact nGP (congrArg Prod.fst this)
theorem deedD_inj {e f : Deed} (h : deedD e = deedD f) : e = f := by
  obtain ⟨w, n⟩ := e
  obtain ⟨w', n'⟩ := f
  simp [deedD] at h
  rw [h.1, h.2]
theorem way_word {e : Deed} {line : List Int} {s l p : Int} (h : e ∈ waysOf line l s p) : e.1 = kG ∨ e.1 = kS ∨ e.1 = kP := by
  rcases way_cases h with ⟨rfl, _⟩ | ⟨rfl, _⟩ | ⟨rfl, _⟩
  · exact .inl rfl
  · exact .inr (.inl rfl)
  · exact .inr (.inr rfl)
theorem deed_ok {e : Deed} (h : e.1 = kG ∨ e.1 = kS ∨ e.1 = kP) {n : Nat} : ok0 (n + 1) (deedD e) = true := by
  have := word_ok h
  show (ok0 n (.str e.1) && (ok0 n (.int e.2) && true)) = true
  have a : ok0 n (.str e.1) = true := by cases n <;> exact this
  have b : ok0 n (.int e.2) = true := by cases n <;> rfl
  rw [a, b]; rfl
/-- in a list of deeds -/
theorem inDeeds {e : Deed} {ds : List Deed} {S : Sto} (he : e.1 = kG ∨ e.1 = kS ∨ e.1 = kP) (hd : ∀ d ∈ ds, d.1 = kG ∨ d.1 = kS ∨ d.1 = kP) : inD S (deedD e) (.lst (ds.map deedD)) = some (decide (e ∈ ds)) := by
  have h1 : ok0 1 (deedD e) = true := deed_ok he
  have h2 : ok0 2 (.lst (ds.map deedD)) = true := by
    rw [ok0, ok0s_all]
    intro d h
    obtain ⟨f, hf, rfl⟩ := List.mem_map.mp h
    exact deed_ok (hd f hf)
  obtain ⟨p, -, a2, a3⟩ := ok0_shaped (S := S) h1 (by omega)
  obtain ⟨q, -, b2, b3⟩ := ok0_shaped (S := S) h2 (by omega)
  have hp : pdOf S (deedD e) = some (.tuple [.str e.1, .int e.2]) := rfl
  have hm : ∀ ds : List Deed, toPDs (ds.map deedD) = some (ds.map fun d => .tuple [.str d.1, .int d.2]) := by
    intro ds
    induction ds with
    | nil => rfl
    | cons d ds ih => rw [List.map_cons, toPDs, ih]; rfl
  have hq : pdOf S (.lst (ds.map deedD)) = some (.list (ds.map fun d => .tuple [.str d.1, .int d.2])) := by
    show (toPDs _).map _ = _
    rw [hm]; rfl
  rw [hp] at a2; cases a2
  rw [hq] at b2; cases b2
  show (match pdOf S (deedD e), pdOf S (.lst (ds.map deedD)) with
    | some p, some (.list qs) => guardO (SeqAt.shaped p && SeqAt.shaped (.list qs)) (qs.any fun z => PyData.eqv z p)
    | _, _ => none) = _
  rw [hp, hq]
  simp -implicitDefEqProofs only [a3, b3, Bool.and_self, guardO, if_true]
  congr 1
  clear hq b3 h2 hm
  induction ds with
  | nil => simp
  | cons d ds ih =>
    rw [List.map_cons, List.any_cons, ih (fun d h => hd d (List.mem_cons_of_mem _ h))]
    simp -implicitDefEqProofs only [PyData.eqv, PyData.eqvAll, Bool.and_true]
    obtain ⟨w, n⟩ := e
    obtain ⟨w', n'⟩ := d
    by_cases c : w = w'
    · subst c
      by_cases c2 : n = n'
      · subst c2; simp
      · have c3 : ¬ n' = n := fun h => c2 h.symm
        simp [c2, c3]
    · have c3 : ¬ w' = w := fun h => c h.symm
      simp [c, c3]
def someL : List Deed := [(kG, 1), (kG, 2), (kG, 3), (kG, 4), (kG, 5), (kP, 1), (kP, 2), (kP, 3), (kP, 4), (kP, 5), (kS, 1)]
def oddL : List D := [deedD ("go", 0), deedD (kS, 2), .tup [.str kS, .bl true], .lst [.str kS, .int 1], .tup [.str kS], .str kS, .non, .tup [.str kS, .int 1, .int 1], deedD (kG, 0), .tup [.str kP, .bl true], .tup [.str kG, .bl true]]
theorem odd_none {line : List Int} {s l p : Int} : ∀ x ∈ oddL, ok0 19 x = true ∧ afterDeed x (line, s, l, p) = none := by
  intro x hx
  have key : ∀ e : Deed, e ∉ waysOf line l s p → afterDeed (deedD e) (line, s, l, p) = none := by
    intro e he
    cases q : afterDeed (deedD e) (line, s, l, p) with
    | none => rfl
    | some y => exact absurd (after_way q) he
  simp -implicitDefEqProofs only [oddL, List.mem_cons, List.not_mem_nil, or_false] at hx
  rcases hx with rfl | rfl | rfl | rfl | rfl | rfl | rfl | rfl | rfl | rfl | rfl
  · refine ⟨by decide +kernel, key _ fun h => ?_⟩
    rcases way_cases h with ⟨h, _⟩ | ⟨h, _⟩ | ⟨h, _⟩
    · exact absurd (congrArg Prod.fst h) (show ¬ (("go" : Str) = kG) by decide +kernel)
    · exact absurd (congrArg Prod.fst h) (show ¬ (("go" : Str) = kS) by decide +kernel)
    · exact absurd (congrArg Prod.fst h) (show ¬ (("go" : Str) = kP) by decide +kernel)
  · refine ⟨by decide +kernel, key _ fun h => ?_⟩
    rcases way_cases h with ⟨h, _⟩ | ⟨h, _⟩ | ⟨h, _⟩
    · exact absurd (congrArg Prod.fst h) nGS
    · exact absurd (congrArg Prod.snd h) (by decide)
    · exact absurd (congrArg Prod.fst h) nPS
  · exact ⟨by decide +kernel, after_not fun e => rfl⟩
  · exact ⟨by decide +kernel, after_not fun e => rfl⟩
  · exact ⟨by decide +kernel, after_not fun e => rfl⟩
  · exact ⟨by decide +kernel, after_not fun e => rfl⟩
  · exact ⟨by decide +kernel, after_not fun e => rfl⟩
  · exact ⟨by decide +kernel, after_not fun e => rfl⟩
  · refine ⟨by decide +kernel, key _ fun h => ?_⟩
    rcases way_cases h with ⟨h, h2, _⟩ | ⟨h, _⟩ | ⟨h, _⟩
    · have : (0 : Int) = front line := congrArg Prod.snd h
      omega
    · exact absurd (congrArg Prod.fst h) nSG
    · exact absurd (congrArg Prod.fst h) nPG
  · exact ⟨by decide +kernel, after_not fun e => rfl⟩
  · exact ⟨by decide +kernel, after_not fun e => rfl⟩
theorem c_law_wrong {line : List Int} {l s p : Int} {S : Sto} {R : QD} {E : XP} (hl : line.length ≤ 1000) (h : ∀ xs : List D, xs ≠ [] → (∀ x ∈ xs, ok0 19 x = true ∧ afterDeed x (line, s, l, p) = none) → R (.lst xs) S) : (Γ 23).sp [iv line, .int l, .int s, .int p] S R E := ⟨_, _, _, _, rfl, hl, h⟩
open Classical in
theorem p_law_wrong : Kept sp_law_wrong b_law_wrong 9 := by
  rintro ds S R E ⟨line, l, s, p, rfl, hl, h⟩
  show wSs Γ Ct E b_law_wrong (KR R) [some (iv line), some (.int l), some (.int s), some (.int p), none, none, none, none, none] S
  simp -implicitDefEqProofs only [b_law_wrong, wSs, wS, wE, wA, wP, wI, wIfs, tgNm, tgTup, tgNil, tgCons, getS, setS, optW_some, conD, negD, wip0, wipC, List.set_cons_zero, List.set_cons_succ, cmpLt, cmpLe, cmpGt, cmpGe, cmpEq, cmpNe, cmpIs, cmpIsN, cmpIn, cmpNotIn, binAdd, binSub, lenTup, lenLst, biMax, biMin, biInt, biIntB, tupTup, tupLst, lstTup, lstLst, ixT, ixL, slTup, slLst, atI0, atI1, atI2, atI3, atI4, atI5, isiTup, isiLst, seqTup, seqLst, lstOfLst, gOfTup, gOfLst, lstOfS, seqOfS, lenS, tupS, lstS, ixS, Sto.set_same, Sto.set_set, eqInt, eqStr, eqNil, isNon, Option.map_some, List.length_cons, List.length_nil, List.length_map]
  refine c_law_ways hl ?_
  refine ⟨⟨⟨by decide, by decide⟩, ⟨by decide, by decide⟩, by decide⟩, ?_⟩
  refine lcW_map (f := fun d => .tup [.str kG, d]) (fun d hd R' hR => hR) trivial ?_
  try simp -implicitDefEqProofs only [wSs, wS, wE, wA, wP, wI, wIfs, tgNm, tgTup, tgNil, tgCons, getS, setS, optW_some, conD, negD, wip0, wipC, List.set_cons_zero, List.set_cons_succ, cmpLt, cmpLe, cmpGt, cmpGe, cmpEq, cmpNe, cmpIs, cmpIsN, cmpIn, cmpNotIn, binAdd, binSub, lenTup, lenLst, biMax, biMin, biInt, biIntB, tupTup, tupLst, lstTup, lstLst, ixT, ixL, slTup, slLst, atI0, atI1, atI2, atI3, atI4, atI5, isiTup, isiLst, seqTup, seqLst, lstOfLst, gOfTup, gOfLst, lstOfS, seqOfS, lenS, tupS, lstS, ixS, Sto.set_same, Sto.set_set, eqInt, eqStr, eqNil, isNon, Option.map_some, List.length_cons, List.length_nil, List.length_map]
  refine ⟨⟨⟨by decide, by decide⟩, ⟨by decide, by decide⟩, by decide⟩, ?_⟩
  refine lcW_map (f := fun d => .tup [.str kP, d]) (fun d hd R' hR => hR) trivial ?_
  have r5 : rngD 1 6 = [.int 1, .int 2, .int 3, .int 4, .int 5] := rfl
  simp -implicitDefEqProofs only [r5, List.nil_append, List.map_cons, List.map_nil]
  rw [binLst (by simp)]
  try simp -implicitDefEqProofs only [wSs, wS, wE, wA, wP, wI, wIfs, tgNm, tgTup, tgNil, tgCons, getS, setS, optW_some, conD, negD, wip0, wipC, List.set_cons_zero, List.set_cons_succ, cmpLt, cmpLe, cmpGt, cmpGe, cmpEq, cmpNe, cmpIs, cmpIsN, cmpIn, cmpNotIn, binAdd, binSub, lenTup, lenLst, biMax, biMin, biInt, biIntB, tupTup, tupLst, lstTup, lstLst, ixT, ixL, slTup, slLst, atI0, atI1, atI2, atI3, atI4, atI5, isiTup, isiLst, seqTup, seqLst, lstOfLst, gOfTup, gOfLst, lstOfS, seqOfS, lenS, tupS, lstS, ixS, Sto.set_same, Sto.set_set, eqInt, eqStr, eqNil, isNon, Option.map_some, List.length_cons, List.length_nil, List.length_map]
  rw [binLst (by simp)]
  try simp -implicitDefEqProofs only [wSs, wS, wE, wA, wP, wI, wIfs, tgNm, tgTup, tgNil, tgCons, getS, setS, optW_some, conD, negD, wip0, wipC, List.set_cons_zero, List.set_cons_succ, cmpLt, cmpLe, cmpGt, cmpGe, cmpEq, cmpNe, cmpIs, cmpIsN, cmpIn, cmpNotIn, binAdd, binSub, lenTup, lenLst, biMax, biMin, biInt, biIntB, tupTup, tupLst, lstTup, lstLst, ixT, ixL, slTup, slLst, atI0, atI1, atI2, atI3, atI4, atI5, isiTup, isiLst, seqTup, seqLst, lstOfLst, gOfTup, gOfLst, lstOfS, seqOfS, lenS, tupS, lstS, ixS, Sto.set_same, Sto.set_set, eqInt, eqStr, eqNil, isNon, Option.map_some, List.length_cons, List.length_nil, List.length_map]
  have es : ([D.tup [D.str kG, D.int 1], D.tup [D.str kG, D.int 2], D.tup [D.str kG, D.int 3], D.tup [D.str kG, D.int 4], D.tup [D.str kG, D.int 5]] ++ [D.tup [D.str kP, D.int 1], D.tup [D.str kP, D.int 2], D.tup [D.str kP, D.int 3], D.tup [D.str kP, D.int 4], D.tup [D.str kP, D.int 5]] ++ [D.tup [D.str kS, D.int 1]]) = someL.map deedD := rfl
  rw [es]
  refine lcW_fm (f := fun d => if d ∈ (waysOf line l s p).map deedD then none else some d) ?_ trivial ?_
  · intro d hd R' hR
    obtain ⟨e, he, rfl⟩ := List.mem_map.mp hd
    have hw : e.1 = kG ∨ e.1 = kS ∨ e.1 = kP := by
      simp -implicitDefEqProofs only [someL, List.mem_cons, List.not_mem_nil, or_false] at he
      rcases he with rfl | rfl | rfl | rfl | rfl | rfl | rfl | rfl | rfl | rfl | rfl <;> simp
    try simp -implicitDefEqProofs only [wSs, wS, wE, wA, wP, wI, wIfs, tgNm, tgTup, tgNil, tgCons, getS, setS, optW_some, conD, negD, wip0, wipC, List.set_cons_zero, List.set_cons_succ, cmpLt, cmpLe, cmpGt, cmpGe, cmpEq, cmpNe, cmpIs, cmpIsN, cmpIn, cmpNotIn, binAdd, binSub, lenTup, lenLst, biMax, biMin, biInt, biIntB, tupTup, tupLst, lstTup, lstLst, ixT, ixL, slTup, slLst, atI0, atI1, atI2, atI3, atI4, atI5, isiTup, isiLst, seqTup, seqLst, lstOfLst, gOfTup, gOfLst, lstOfS, seqOfS, lenS, tupS, lstS, ixS, Sto.set_same, Sto.set_set, eqInt, eqStr, eqNil, isNon, Option.map_some, List.length_cons, List.length_nil, List.length_map]
    rw [inDeeds hw (fun d hd => way_word hd)]
    try simp -implicitDefEqProofs only [wSs, wS, wE, wA, wP, wI, wIfs, tgNm, tgTup, tgNil, tgCons, getS, setS, optW_some, conD, negD, wip0, wipC, List.set_cons_zero, List.set_cons_succ, cmpLt, cmpLe, cmpGt, cmpGe, cmpEq, cmpNe, cmpIs, cmpIsN, cmpIn, cmpNotIn, binAdd, binSub, lenTup, lenLst, biMax, biMin, biInt, biIntB, tupTup, tupLst, lstTup, lstLst, ixT, ixL, slTup, slLst, atI0, atI1, atI2, atI3, atI4, atI5, isiTup, isiLst, seqTup, seqLst, lstOfLst, gOfTup, gOfLst, lstOfS, seqOfS, lenS, tupS, lstS, ixS, Sto.set_same, Sto.set_set, eqInt, eqStr, eqNil, isNon, Option.map_some, List.length_cons, List.length_nil, List.length_map]
    by_cases q : e ∈ waysOf line l s p
    · rw [if_pos (List.mem_map_of_mem q)] at hR
      simp -implicitDefEqProofs only [q, if_true, if_false, Bool.false_eq_true, Bool.not_true, Bool.not_false, reduceIte, decide_true, decide_false, Bool.and_self]
      exact hR
    · rw [if_neg (by
        intro h
        obtain ⟨f, hf, he⟩ := List.mem_map.mp h
        rw [deedD_inj he] at hf
        exact q hf)] at hR
      simp -implicitDefEqProofs only [q, if_true, if_false, Bool.false_eq_true, Bool.not_true, Bool.not_false, reduceIte, decide_true, decide_false, Bool.and_self]
      exact hR
  generalize hg : List.filterMap (fun d => if d ∈ (waysOf line l s p).map deedD then none else some d) (someL.map deedD) = good
  have hgl : good.length ≤ 11 := by rw [← hg]; exact Nat.le_trans (List.length_filterMap_le ..) (by simp [someL])
  have hgn : ∀ x ∈ good, ok0 19 x = true ∧ afterDeed x (line, s, l, p) = none := by
    intro x hx
    rw [← hg] at hx
    obtain ⟨d, hd, hx⟩ := List.mem_filterMap.mp hx
    split at hx
    · cases hx
    · rename_i q
      cases hx
      obtain ⟨e, he, rfl⟩ := List.mem_map.mp hd
      have hw : e.1 = kG ∨ e.1 = kS ∨ e.1 = kP := by
        simp -implicitDefEqProofs only [someL, List.mem_cons, List.not_mem_nil, or_false] at he
        rcases he with rfl | rfl | rfl | rfl | rfl | rfl | rfl | rfl | rfl | rfl | rfl <;> simp
      refine ⟨deed_ok hw, ?_⟩
      cases z : afterDeed (deedD e) (line, s, l, p) with
      | none => rfl
      | some y => exact absurd (List.mem_map_of_mem (after_way z)) q
  simp -implicitDefEqProofs only [wSs, wS, wE, wA, wP, wI, wIfs, tgNm, tgTup, tgNil, tgCons, getS, setS, optW_some, conD, negD, wip0, wipC, List.set_cons_zero, List.set_cons_succ, cmpLt, cmpLe, cmpGt, cmpGe, cmpEq, cmpNe, cmpIs, cmpIsN, cmpIn, cmpNotIn, binAdd, binSub, lenTup, lenLst, biMax, biMin, biInt, biIntB, tupTup, tupLst, lstTup, lstLst, ixT, ixL, slTup, slLst, atI0, atI1, atI2, atI3, atI4, atI5, isiTup, isiLst, seqTup, seqLst, lstOfLst, gOfTup, gOfLst, lstOfS, seqOfS, lenS, tupS, lstS, ixS, Sto.set_same, Sto.set_set, eqInt, eqStr, eqNil, isNon, Option.map_some, List.length_cons, List.length_nil, List.length_map, List.nil_append]
  rw [binLst (by simp; omega)]
  try simp -implicitDefEqProofs only [wSs, wS, wE, wA, wP, wI, wIfs, tgNm, tgTup, tgNil, tgCons, getS, setS, optW_some, conD, negD, wip0, wipC, List.set_cons_zero, List.set_cons_succ, cmpLt, cmpLe, cmpGt, cmpGe, cmpEq, cmpNe, cmpIs, cmpIsN, cmpIn, cmpNotIn, binAdd, binSub, lenTup, lenLst, biMax, biMin, biInt, biIntB, tupTup, tupLst, lstTup, lstLst, ixT, ixL, slTup, slLst, atI0, atI1, atI2, atI3, atI4, atI5, isiTup, isiLst, seqTup, seqLst, lstOfLst, gOfTup, gOfLst, lstOfS, seqOfS, lenS, tupS, lstS, ixS, Sto.set_same, Sto.set_set, eqInt, eqStr, eqNil, isNon, Option.map_some, List.length_cons, List.length_nil, List.length_map]
  rw [binLst (by simp; omega)]
  try simp -implicitDefEqProofs only [wSs, wS, wE, wA, wP, wI, wIfs, tgNm, tgTup, tgNil, tgCons, getS, setS, optW_some, conD, negD, wip0, wipC, List.set_cons_zero, List.set_cons_succ, cmpLt, cmpLe, cmpGt, cmpGe, cmpEq, cmpNe, cmpIs, cmpIsN, cmpIn, cmpNotIn, binAdd, binSub, lenTup, lenLst, biMax, biMin, biInt, biIntB, tupTup, tupLst, lstTup, lstLst, ixT, ixL, slTup, slLst, atI0, atI1, atI2, atI3, atI4, atI5, isiTup, isiLst, seqTup, seqLst, lstOfLst, gOfTup, gOfLst, lstOfS, seqOfS, lenS, tupS, lstS, ixS, Sto.set_same, Sto.set_set, eqInt, eqStr, eqNil, isNon, Option.map_some, List.length_cons, List.length_nil, List.length_map]
  have eo : ∀ g : List D, (g ++ [D.tup [D.str "go", D.int 0], D.tup [D.str kS, D.int 2], D.tup [D.str kS, D.bl true], D.lst [D.str kS, D.int 1], D.tup [D.str kS], D.str kS, D.non, D.tup [D.str kS, D.int 1, D.int 1]] ++ [D.tup [D.str kG, D.int 0], D.tup [D.str kP, D.bl true], D.tup [D.str kG, D.bl true]]) = g ++ oddL := by
    intro g; rw [List.append_assoc]; rfl
  rw [eo]
  refine h _ (by simp [oddL]) ?_
  intro x hx
  rcases List.mem_append.mp hx with q | q
  · exact hgn x q
  · exact odd_none x q
end FC
namespace FC
open PySem PySem.Spec PyProof.Rows DL
theorem afterAll_app {ds es : List D} : ∀ {x : In}, afterAll (ds ++ es) x = (afterAll ds x).bind (afterAll es) := by
  induction ds with
  | nil => intro x; rfl
  | cons d ds ih =>
    intro x
    rw [List.cons_append, afterAll, afterAll]
    cases afterDeed d x with
    | none => rfl
    | some y => exact ih
theorem done_bounds {e : Deed} {line : List Int} {s l p : Int} (h : e ∈ waysOf line l s p) (hs : 0 ≤ s) (hp : 0 ≤ p) :
    (doneOf e line l s p).1.length ≤ line.length ∧ (doneOf e line l s p).2.1 ≤ l ∧ 0 ≤ (doneOf e line l s p).2.2.1 ∧ (doneOf e line l s p).2.2.1 ≤ s ∧ 0 ≤ (doneOf e line l s p).2.2.2 ∧ (doneOf e line l s p).2.2.2 ≤ p := by
  unfold doneOf
  rcases way_cases h with ⟨rfl, h1, h2⟩ | ⟨rfl, h1, h2⟩ | ⟨rfl, h1, h2, h3⟩
  · rw [if_pos rfl]; simp; omega
  · rw [if_neg nGS, if_pos rfl]; simp; omega
  · rw [if_neg nGP, if_neg nSP]
    cases line with
    | nil => simp [front] at h1; omega
    | cons a line => simp; omega
theorem c_law_chair {xs line : List Int} {l s p : Int} {S : Sto} {R : QD} {E : XP} (h0 : xs.length ≤ 6) (hx : ∀ x ∈ xs, 0 ≤ x) (hl : line.length ≤ 100) (hs : 0 ≤ s) (hp : 0 ≤ p) (h5 : l ≤ 5)
    (h : ∀ chair y trail, Chair (line, s, l, p) chair y trail → R (.tup [.tup (chair.map deedD), .tup [iv y.1, .int y.2.2.1, .int y.2.1, .int y.2.2.2], .lst (trail.map fun t => trailD t.1 t.2)]) S) :
    (Γ 29).sp [nnD xs, iv line, .int l, .int s, .int p] S R E := ⟨_, _, _, _, _, rfl, h0, hx, hl, hs, hp, h5, h⟩
theorem deeds_ok {ds : List Deed} (hd : ∀ d ∈ ds, d.1 = kG ∨ d.1 = kS ∨ d.1 = kP) {n : Nat} : ok0s (n + 1) (ds.map deedD) = true := by
  rw [ok0s_all]
  intro d h
  obtain ⟨f, hf, rfl⟩ := List.mem_map.mp h
  exact deed_ok (hd f hf)
theorem p_law_chair : Kept sp_law_chair b_law_chair 10 := by
  rintro ds S R E ⟨xs, line0, l0, s0, p0, rfl, h0, hx, hl, hs, hp, h5, h⟩
  show wSs Γ Ct E b_law_chair (KR R) [some (.lst (xs.map D.int)), some (iv line0), some (.int l0), some (.int s0), some (.int p0), none, none, none, none, none] S
  simp -implicitDefEqProofs only [b_law_chair, wSs, wS, wE, wA, wP, wI, wIfs, tgNm, tgTup, tgNil, tgCons, getS, setS, optW_some, conD, negD, wip0, wipC, List.set_cons_zero, List.set_cons_succ, cmpLt, cmpLe, cmpGt, cmpGe, cmpEq, cmpNe, cmpIs, cmpIsN, cmpIn, cmpNotIn, binAdd, binSub, lenTup, lenLst, biMax, biMin, biInt, biIntB, tupTup, tupLst, lstTup, lstLst, ixT, ixL, slTup, slLst, atI0, atI1, atI2, atI3, atI4, atI5, isiTup, isiLst, seqTup, seqLst, lstOfLst, gOfTup, gOfLst, lstOfS, seqOfS, lenS, tupS, lstS, ixS, Sto.set_same, Sto.set_set, eqInt, eqStr, eqNil, isNon, Option.map_some, List.length_cons, List.length_nil, List.length_map]
  intro a ha b hb
  have hab : a ≠ b := by rintro rfl; rw [Sto.set_same] at hb; cases hb
  have hSb : S b = none := by rwa [Sto.set_ne (Ne.symm hab)] at hb
  refine forW_brk (fun ds' st S' => ∃ (ws : List Int) (line : List Int) (s l p : Int) (ch : List Deed) (tr : List (List Deed × In)) (y7 y8 y9 : Option D), ds' = ws.map D.int ∧ ws.length + ch.length ≤ 6 ∧ tr.length ≤ ch.length + 1 ∧ (ws ≠ [] → tr.length ≤ ch.length) ∧ (∀ x ∈ ws, 0 ≤ x) ∧
      st = [some (.lst (xs.map D.int)), some (iv line), some (.int l), some (.int s), some (.int p), some (.loc a), some (.loc b), y7, y8, y9] ∧
      S' = (S.set a (.lst (ch.map deedD))).set b (.lst (tr.map fun t => trailD t.1 t.2)) ∧ afterAll (ch.map deedD) (line0, s0, l0, p0) = some (line, s, l, p) ∧
      (∀ t ∈ tr, afterAll (t.1.map deedD) (line0, s0, l0, p0) = some t.2 ∧ t.1.length ≤ 6 ∧ t.2.1.length ≤ 100 ∧ ∀ e ∈ t.1, e.1 = kG ∨ e.1 = kS ∨ e.1 = kP) ∧ (∀ e ∈ ch, e.1 = kG ∨ e.1 = kS ∨ e.1 = kP) ∧
      line.length ≤ line0.length ∧ 0 ≤ s ∧ s ≤ s0 ∧ 0 ≤ p ∧ p ≤ p0 ∧ l ≤ 5) ?_ ?_ ?_
  · rintro st S' ⟨ws, line, s, l, p, ch, tr, y7, y8, y9, hds, hlen, htr, -, hws, rfl, rfl, hrun, htrail, hch, b1, b2, b3, b4, b5, b6⟩
    cases ws with
    | cons => cases hds
    | nil =>
      refine ⟨trivial, ?_⟩
      simp -implicitDefEqProofs only [wSs, wS, wE, wA, wP, wI, wIfs, tgNm, tgTup, tgNil, tgCons, getS, setS, optW_some, conD, negD, wip0, wipC, List.set_cons_zero, List.set_cons_succ, cmpLt, cmpLe, cmpGt, cmpGe, cmpEq, cmpNe, cmpIs, cmpIsN, cmpIn, cmpNotIn, binAdd, binSub, lenTup, lenLst, biMax, biMin, biInt, biIntB, tupTup, tupLst, lstTup, lstLst, ixT, ixL, slTup, slLst, atI0, atI1, atI2, atI3, atI4, atI5, isiTup, isiLst, seqTup, seqLst, lstOfLst, gOfTup, gOfLst, lstOfS, seqOfS, lenS, tupS, lstS, ixS, Sto.set_same, Sto.set_set, eqInt, eqStr, eqNil, isNon, Option.map_some, List.length_cons, List.length_nil, List.length_map, Sto.get2 hab]
      rw [Sto.del2 hab ha]
      try simp -implicitDefEqProofs only [wSs, wS, wE, wA, wP, wI, wIfs, tgNm, tgTup, tgNil, tgCons, getS, setS, optW_some, conD, negD, wip0, wipC, List.set_cons_zero, List.set_cons_succ, cmpLt, cmpLe, cmpGt, cmpGe, cmpEq, cmpNe, cmpIs, cmpIsN, cmpIn, cmpNotIn, binAdd, binSub, lenTup, lenLst, biMax, biMin, biInt, biIntB, tupTup, tupLst, lstTup, lstLst, ixT, ixL, slTup, slLst, atI0, atI1, atI2, atI3, atI4, atI5, isiTup, isiLst, seqTup, seqLst, lstOfLst, gOfTup, gOfLst, lstOfS, seqOfS, lenS, tupS, lstS, ixS, Sto.set_same, Sto.set_set, eqInt, eqStr, eqNil, isNon, Option.map_some, List.length_cons, List.length_nil, List.length_map]
      rw [Sto.del_set hSb]
      exact h ch (line, s, l, p) tr ⟨hrun, fun t ht => (htrail t ht).1, fun t ht => ⟨(htrail t ht).2.1, (htrail t ht).2.2.1⟩, hch, fun t ht => (htrail t ht).2.2.2, by simp at hlen; omega, by simp at hlen; omega, b2, b3, b1, b4, b5⟩
  · rintro fin d' ds' st S' nxt ⟨ws, line, s, l, p, ch, tr, y7, y8, y9, hds, hlen, htr, htr2, hws, rfl, rfl, hrun, htrail, hch, b1, b2, b3, b4, b5, b6⟩ hn
    cases ws with
    | nil => cases hds
    | cons w ws =>
      rw [List.map_cons, List.cons.injEq] at hds
      obtain ⟨rfl, rfl⟩ := hds
      refine ⟨trivial, ?_⟩
      have hw := hws w (List.mem_cons_self ..)
      have htl := htr2 (by simp)
      simp -implicitDefEqProofs only [List.length_cons] at hlen
      try simp -implicitDefEqProofs only [wSs, wS, wE, wA, wP, wI, wIfs, tgNm, tgTup, tgNil, tgCons, getS, setS, optW_some, conD, negD, wip0, wipC, List.set_cons_zero, List.set_cons_succ, cmpLt, cmpLe, cmpGt, cmpGe, cmpEq, cmpNe, cmpIs, cmpIsN, cmpIn, cmpNotIn, binAdd, binSub, lenTup, lenLst, biMax, biMin, biInt, biIntB, tupTup, tupLst, lstTup, lstLst, ixT, ixL, slTup, slLst, atI0, atI1, atI2, atI3, atI4, atI5, isiTup, isiLst, seqTup, seqLst, lstOfLst, gOfTup, gOfLst, lstOfS, seqOfS, lenS, tupS, lstS, ixS, Sto.set_same, Sto.set_set, eqInt, eqStr, eqNil, isNon, Option.map_some, List.length_cons, List.length_nil, List.length_map]
      refine c_law_ways (by omega) ?_
      simp -implicitDefEqProofs only [wSs, wS, wE, wA, wP, wI, wIfs, tgNm, tgTup, tgNil, tgCons, getS, setS, optW_some, conD, negD, wip0, wipC, List.set_cons_zero, List.set_cons_succ, cmpLt, cmpLe, cmpGt, cmpGe, cmpEq, cmpNe, cmpIs, cmpIsN, cmpIn, cmpNotIn, binAdd, binSub, lenTup, lenLst, biMax, biMin, biInt, biIntB, tupTup, tupLst, lstTup, lstLst, ixT, ixL, slTup, slLst, atI0, atI1, atI2, atI3, atI4, atI5, isiTup, isiLst, seqTup, seqLst, lstOfLst, gOfTup, gOfLst, lstOfS, seqOfS, lenS, tupS, lstS, ixS, Sto.set_same, Sto.set_set, eqInt, eqStr, eqNil, isNon, Option.map_some, List.length_cons, List.length_nil, List.length_map, lstLoc (Sto.get2 hab)]
      rw [meAppS (by simp; omega)]
      have etr : ∀ x : D, x = trailD ch (line, s, l, p) → (tr.map fun t => trailD t.1 t.2) ++ [x] = (tr ++ [(ch, (line, s, l, p))]).map fun t => trailD t.1 t.2 := by
        rintro x rfl; simp
      rw [etr (.tup [.lst (ch.map deedD), iv line, .int l, .int s, .int p]) rfl]
      have htrail2 : ∀ t ∈ tr ++ [(ch, (line, s, l, p))], afterAll (t.1.map deedD) (line0, s0, l0, p0) = some t.2 ∧ t.1.length ≤ 6 ∧ t.2.1.length ≤ 100 ∧ ∀ e ∈ t.1, e.1 = kG ∨ e.1 = kS ∨ e.1 = kP := by
        intro t ht
        rcases List.mem_append.mp ht with q | q
        · exact htrail t q
        · simp at q
          subst q
          exact ⟨hrun, by simp only; omega, by simp only; omega, hch⟩
      try simp -implicitDefEqProofs only [wSs, wS, wE, wA, wP, wI, wIfs, tgNm, tgTup, tgNil, tgCons, getS, setS, optW_some, conD, negD, wip0, wipC, List.set_cons_zero, List.set_cons_succ, cmpLt, cmpLe, cmpGt, cmpGe, cmpEq, cmpNe, cmpIs, cmpIsN, cmpIn, cmpNotIn, binAdd, binSub, lenTup, lenLst, biMax, biMin, biInt, biIntB, tupTup, tupLst, lstTup, lstLst, ixT, ixL, slTup, slLst, atI0, atI1, atI2, atI3, atI4, atI5, isiTup, isiLst, seqTup, seqLst, lstOfLst, gOfTup, gOfLst, lstOfS, seqOfS, lenS, tupS, lstS, ixS, Sto.set_same, Sto.set_set, eqInt, eqStr, eqNil, isNon, Option.map_some, List.length_cons, List.length_nil, List.length_map]
      have hways : ∀ d ∈ waysOf line l s p, d.1 = kG ∨ d.1 = kS ∨ d.1 = kP := fun d hd => way_word hd
      rw [eqD_nil (n := 2) (deeds_ok hways) (by omega)]
      try simp -implicitDefEqProofs only [wSs, wS, wE, wA, wP, wI, wIfs, tgNm, tgTup, tgNil, tgCons, getS, setS, optW_some, conD, negD, wip0, wipC, List.set_cons_zero, List.set_cons_succ, cmpLt, cmpLe, cmpGt, cmpGe, cmpEq, cmpNe, cmpIs, cmpIsN, cmpIn, cmpNotIn, binAdd, binSub, lenTup, lenLst, biMax, biMin, biInt, biIntB, tupTup, tupLst, lstTup, lstLst, ixT, ixL, slTup, slLst, atI0, atI1, atI2, atI3, atI4, atI5, isiTup, isiLst, seqTup, seqLst, lstOfLst, gOfTup, gOfLst, lstOfS, seqOfS, lenS, tupS, lstS, ixS, Sto.set_same, Sto.set_set, eqInt, eqStr, eqNil, isNon, Option.map_some, List.length_cons, List.length_nil, List.length_map]
      by_cases q : waysOf line l s p = []
      · simp -implicitDefEqProofs only [q, List.map_nil, List.isEmpty_nil, if_true, if_false, Bool.false_eq_true, Bool.not_true, Bool.not_false, reduceIte, decide_true, decide_false, Bool.and_self]
        exact fin _ _ ⟨[], line, s, l, p, ch, tr ++ [(ch, (line, s, l, p))], none, none, none, rfl, by simp; omega, by simp; omega, by simp, by simp, rfl, rfl, hrun, htrail2, hch, b1, b2, b3, b4, b5, b6⟩
      · have e1 : ((waysOf line l s p).map deedD).isEmpty = false := by
          cases z : waysOf line l s p with
          | nil => exact absurd z q
          | cons => rfl
        simp -implicitDefEqProofs only [e1, if_true, if_false, Bool.false_eq_true, Bool.not_true, Bool.not_false, reduceIte, decide_true, decide_false, Bool.and_self]
        rw [binMod (by decide)]
        try simp -implicitDefEqProofs only [wSs, wS, wE, wA, wP, wI, wIfs, tgNm, tgTup, tgNil, tgCons, getS, setS, optW_some, conD, negD, wip0, wipC, List.set_cons_zero, List.set_cons_succ, cmpLt, cmpLe, cmpGt, cmpGe, cmpEq, cmpNe, cmpIs, cmpIsN, cmpIn, cmpNotIn, binAdd, binSub, lenTup, lenLst, biMax, biMin, biInt, biIntB, tupTup, tupLst, lstTup, lstLst, ixT, ixL, slTup, slLst, atI0, atI1, atI2, atI3, atI4, atI5, isiTup, isiLst, seqTup, seqLst, lstOfLst, gOfTup, gOfLst, lstOfS, seqOfS, lenS, tupS, lstS, ixS, Sto.set_same, Sto.set_set, eqInt, eqStr, eqNil, isNon, Option.map_some, List.length_cons, List.length_nil, List.length_map]
        by_cases q2 : w % 8 = 7
        · simp -implicitDefEqProofs only [q2, if_true, if_false, Bool.false_eq_true, Bool.not_true, Bool.not_false, reduceIte, decide_true, decide_false, Bool.and_self]
          exact fin _ _ ⟨[], line, s, l, p, ch, tr ++ [(ch, (line, s, l, p))], none, none, none, rfl, by simp; omega, by simp; omega, by simp, by simp, rfl, rfl, hrun, htrail2, hch, b1, b2, b3, b4, b5, b6⟩
        · have hwl : 0 < (waysOf line l s p).length := List.length_pos_iff.mpr q
          simp -implicitDefEqProofs only [q2, if_true, if_false, Bool.false_eq_true, Bool.not_true, Bool.not_false, reduceIte, decide_true, decide_false, Bool.and_self]
          rw [binDiv (by decide) (by decide)]
          try simp -implicitDefEqProofs only [wSs, wS, wE, wA, wP, wI, wIfs, tgNm, tgTup, tgNil, tgCons, getS, setS, optW_some, conD, negD, wip0, wipC, List.set_cons_zero, List.set_cons_succ, cmpLt, cmpLe, cmpGt, cmpGe, cmpEq, cmpNe, cmpIs, cmpIsN, cmpIn, cmpNotIn, binAdd, binSub, lenTup, lenLst, biMax, biMin, biInt, biIntB, tupTup, tupLst, lstTup, lstLst, ixT, ixL, slTup, slLst, atI0, atI1, atI2, atI3, atI4, atI5, isiTup, isiLst, seqTup, seqLst, lstOfLst, gOfTup, gOfLst, lstOfS, seqOfS, lenS, tupS, lstS, ixS, Sto.set_same, Sto.set_set, eqInt, eqStr, eqNil, isNon, Option.map_some, List.length_cons, List.length_nil, List.length_map]
          rw [binMod (by omega)]
          try simp -implicitDefEqProofs only [wSs, wS, wE, wA, wP, wI, wIfs, tgNm, tgTup, tgNil, tgCons, getS, setS, optW_some, conD, negD, wip0, wipC, List.set_cons_zero, List.set_cons_succ, cmpLt, cmpLe, cmpGt, cmpGe, cmpEq, cmpNe, cmpIs, cmpIsN, cmpIn, cmpNotIn, binAdd, binSub, lenTup, lenLst, biMax, biMin, biInt, biIntB, tupTup, tupLst, lstTup, lstLst, ixT, ixL, slTup, slLst, atI0, atI1, atI2, atI3, atI4, atI5, isiTup, isiLst, seqTup, seqLst, lstOfLst, gOfTup, gOfLst, lstOfS, seqOfS, lenS, tupS, lstS, ixS, Sto.set_same, Sto.set_set, eqInt, eqStr, eqNil, isNon, Option.map_some, List.length_cons, List.length_nil, List.length_map]
          have c1 := Int.emod_nonneg (w / 8) (show ((waysOf line l s p).length : Int) ≠ 0 by omega)
          have c2 := Int.emod_lt_of_pos (w / 8) (show (0 : Int) < ((waysOf line l s p).length : Int) by omega)
          have c3 : (w / 8 % ((waysOf line l s p).length : Int)).toNat < (waysOf line l s p).length := by omega
          have c4 := at_map (f := deedD) (List.getElem?_eq_getElem c3)
          rw [Int.toNat_of_nonneg c1] at c4
          rw [c4]
          have hmem := List.getElem_mem c3
          generalize (waysOf line l s p)[(w / 8 % ((waysOf line l s p).length : Int)).toNat] = e at hmem
          simp -implicitDefEqProofs only [wSs, wS, wE, wA, wP, wI, wIfs, tgNm, tgTup, tgNil, tgCons, getS, setS, optW_some, conD, negD, wip0, wipC, List.set_cons_zero, List.set_cons_succ, cmpLt, cmpLe, cmpGt, cmpGe, cmpEq, cmpNe, cmpIs, cmpIsN, cmpIn, cmpNotIn, binAdd, binSub, lenTup, lenLst, biMax, biMin, biInt, biIntB, tupTup, tupLst, lstTup, lstLst, ixT, ixL, slTup, slLst, atI0, atI1, atI2, atI3, atI4, atI5, isiTup, isiLst, seqTup, seqLst, lstOfLst, gOfTup, gOfLst, lstOfS, seqOfS, lenS, tupS, lstS, ixS, Sto.set_same, Sto.set_set, eqInt, eqStr, eqNil, isNon, Option.map_some, List.length_cons, List.length_nil, List.length_map, lstOfLoc (Sto.get2 hab)]
          refine meApp (Sto.get2 hab) (by simp; omega) ?_
          rw [Sto.set2 hab]
          try simp -implicitDefEqProofs only [wSs, wS, wE, wA, wP, wI, wIfs, tgNm, tgTup, tgNil, tgCons, getS, setS, optW_some, conD, negD, wip0, wipC, List.set_cons_zero, List.set_cons_succ, cmpLt, cmpLe, cmpGt, cmpGe, cmpEq, cmpNe, cmpIs, cmpIsN, cmpIn, cmpNotIn, binAdd, binSub, lenTup, lenLst, biMax, biMin, biInt, biIntB, tupTup, tupLst, lstTup, lstLst, ixT, ixL, slTup, slLst, atI0, atI1, atI2, atI3, atI4, atI5, isiTup, isiLst, seqTup, seqLst, lstOfLst, gOfTup, gOfLst, lstOfS, seqOfS, lenS, tupS, lstS, ixS, Sto.set_same, Sto.set_set, eqInt, eqStr, eqNil, isNon, Option.map_some, List.length_cons, List.length_nil, List.length_map]
          refine c_law_done (by omega) ?_ ?_
          · intro g1 g2
            rcases way_cases hmem with ⟨rfl, _⟩ | ⟨rfl, _⟩ | ⟨rfl, j1, j2, _⟩
            · exact absurd rfl g1
            · exact absurd rfl g2
            · rintro rfl
              simp [front] at j1; omega
          simp -implicitDefEqProofs only [fourD, wSs, wS, wE, wA, wP, wI, wIfs, tgNm, tgTup, tgNil, tgCons, getS, setS, optW_some, conD, negD, wip0, wipC, List.set_cons_zero, List.set_cons_succ, cmpLt, cmpLe, cmpGt, cmpGe, cmpEq, cmpNe, cmpIs, cmpIsN, cmpIn, cmpNotIn, binAdd, binSub, lenTup, lenLst, biMax, biMin, biInt, biIntB, tupTup, tupLst, lstTup, lstLst, ixT, ixL, slTup, slLst, atI0, atI1, atI2, atI3, atI4, atI5, isiTup, isiLst, seqTup, seqLst, lstOfLst, gOfTup, gOfLst, lstOfS, seqOfS, lenS, tupS, lstS, ixS, Sto.set_same, Sto.set_set, eqInt, eqStr, eqNil, isNon, Option.map_some, List.length_cons, List.length_nil, List.length_map]
          obtain ⟨k1, k2, k3, k4, k5, k6⟩ := done_bounds hmem b2 b4
          refine hn _ _ ⟨ws, (doneOf e line l s p).1, (doneOf e line l s p).2.2.1, (doneOf e line l s p).2.1, (doneOf e line l s p).2.2.2, ch ++ [e], tr ++ [(ch, (line, s, l, p))], _, _, _, rfl, by simp; omega, by simp; omega, by simp; omega, fun x hx => hws x (List.mem_cons_of_mem _ hx), rfl, by rw [List.map_append (l₁ := ch)]; rfl, ?_, htrail2, ?_, by omega, k3, by omega, k5, by omega, by omega⟩
          · rw [List.map_append, afterAll_app, hrun]
            show afterAll [deedD e] (line, s, l, p) = _
            rw [afterAll, way_after b6 hmem]
            rfl
          · intro f hf
            rcases List.mem_append.mp hf with z | z
            · exact hch f z
            · simp at z; subst z; exact way_word hmem
  · exact ⟨xs, line0, s0, l0, p0, [], [], _, _, _, rfl, by simpa using h0, by simp, by simp, hx, rfl, rfl, rfl, by simp, by simp, by omega, hs, by omega, hp, by omega, h5⟩

abbrev cD (c : List Deed) : D := .tup (c.map deedD)
theorem c_law_spoilt {cs : List (List Deed)} {tr : List Tr} {pick : List Int} {S : Sto} {R : QD} {E : XP} (h1 : pick.length = 9) (h2 : ∀ x ∈ pick, 0 ≤ x) (h3 : cs.length ≤ 16)
    (h4 : ∀ t ∈ tr, t.1 < cs.length ∧ t.2.2.1.length ≤ 100 ∧ t.2.1.length ≤ 6 ∧ ∀ e ∈ t.2.1, e.1 = kG ∨ e.1 = kS ∨ e.1 = kP) (h5 : ∀ c ∈ cs, ∀ e ∈ c, e.1 = kG ∨ e.1 = kS ∨ e.1 = kP)
    (h : ∀ d, Spoilt (cs.map cD) tr d → R d S) : (Γ 31).sp [.lst (cs.map cD), .lst (tr.map trD), nnD pick] S R E := ⟨_, _, _, rfl, h1, h2, h3, h4, h5, h⟩
theorem trD_ok {t : Tr} (h : ∀ e ∈ t.2.1, e.1 = kG ∨ e.1 = kS ∨ e.1 = kP) {n : Nat} : ok0 (n + 3) (trD t) = true := by
  show (ok0 (n + 2) (.int (t.1 : Nat)) && (ok0 (n + 2) (.lst (t.2.1.map deedD)) && (ok0 (n + 2) (.tup (t.2.2.1.map D.int)) && (ok0 (n + 2) (.int t.2.2.2.2.1) && (ok0 (n + 2) (.int t.2.2.2.1) && (ok0 (n + 2) (.int t.2.2.2.2.2) && true)))))) = true
  have e2 : ok0 (n + 2) (.lst (t.2.1.map deedD)) = true := deeds_ok h
  have e3 : ok0 (n + 2) (.tup (t.2.2.1.map D.int)) = true := ok0s_int
  rw [e2, e3]; rfl
theorem cs_ok {cs : List (List Deed)} (h5 : ∀ c ∈ cs, ∀ e ∈ c, e.1 = kG ∨ e.1 = kS ∨ e.1 = kP) {n : Nat} : ok0s (n + 2) (cs.map cD) = true := by
  rw [ok0s_all]
  intro d hd
  obtain ⟨c, hc, rfl⟩ := List.mem_map.mp hd
  exact deeds_ok (h5 c hc)
theorem eqD_nil' {n : Nat} {ds : List D} {S : Sto} (h : ok0s n ds = true) (hn : n ≤ 59) : eqD S (.lst ds) (.lst []) = some ds.isEmpty := eqD_nil (n := n + 1) h (by omega)
theorem p_law_spoilt : Kept sp_law_spoilt b_law_spoilt 8 := by
  rintro ds S R E ⟨cs, tr, pick, rfl, h1, h2, h3, h4, h5, h⟩
  show wSs Γ Ct E b_law_spoilt (KR R) [some (.lst (cs.map cD)), some (.lst (tr.map trD)), some (.lst (pick.map D.int)), none, none, none, none, none] S
  have e3 : L2.atI (pick.map D.int) 3 = some (.int (pick[3]'(by omega))) := at_map (k := 3) (List.getElem?_eq_getElem (by omega))
  have e4 : L2.atI (pick.map D.int) 4 = some (.int (pick[4]'(by omega))) := at_map (k := 4) (List.getElem?_eq_getElem (by omega))
  have e5 : L2.atI (pick.map D.int) 5 = some (.int (pick[5]'(by omega))) := at_map (k := 5) (List.getElem?_eq_getElem (by omega))
  generalize pick[3]'(by omega) = x3 at e3
  generalize pick[4]'(by omega) = x4 at e4
  generalize pick[5]'(by omega) = x5 at e5
  simp -implicitDefEqProofs only [b_law_spoilt, wSs, wS, wE, wA, wP, wI, wIfs, tgNm, tgTup, tgNil, tgCons, getS, setS, optW_some, conD, negD, wip0, wipC, List.set_cons_zero, List.set_cons_succ, cmpLt, cmpLe, cmpGt, cmpGe, cmpEq, cmpNe, cmpIs, cmpIsN, cmpIn, cmpNotIn, binAdd, binSub, lenTup, lenLst, biMax, biMin, biInt, biIntB, tupTup, tupLst, lstTup, lstLst, ixT, ixL, slTup, slLst, atI0, atI1, atI2, atI3, atI4, atI5, isiTup, isiLst, seqTup, seqLst, lstOfLst, gOfTup, gOfLst, lstOfS, seqOfS, lenS, tupS, lstS, ixS, Sto.set_same, Sto.set_set, eqInt, eqStr, eqNil, isNon, Option.map_some, List.length_cons, List.length_nil, List.length_map, e3]
  rw [binMod (by decide)]
  try simp -implicitDefEqProofs only [wSs, wS, wE, wA, wP, wI, wIfs, tgNm, tgTup, tgNil, tgCons, getS, setS, optW_some, conD, negD, wip0, wipC, List.set_cons_zero, List.set_cons_succ, cmpLt, cmpLe, cmpGt, cmpGe, cmpEq, cmpNe, cmpIs, cmpIsN, cmpIn, cmpNotIn, binAdd, binSub, lenTup, lenLst, biMax, biMin, biInt, biIntB, tupTup, tupLst, lstTup, lstLst, ixT, ixL, slTup, slLst, atI0, atI1, atI2, atI3, atI4, atI5, isiTup, isiLst, seqTup, seqLst, lstOfLst, gOfTup, gOfLst, lstOfS, seqOfS, lenS, tupS, lstS, ixS, Sto.set_same, Sto.set_set, eqInt, eqStr, eqNil, isNon, Option.map_some, List.length_cons, List.length_nil, List.length_map]
  have g1 := Int.emod_nonneg x3 (show (5 : Int) ≠ 0 by decide)
  have g2 := Int.emod_lt_of_pos x3 (show (0 : Int) < 5 by decide)
  have htr : ok0s 3 (tr.map trD) = true := by
    rw [ok0s_all]
    intro d hd
    obtain ⟨t, ht, rfl⟩ := List.mem_map.mp hd
    exact trD_ok (h4 t ht).2.2.2
  rw [eqD_nil' htr (by omega), eqD_nil' (cs_ok h5 (n := 0)) (by omega)]
  simp -implicitDefEqProofs only [wSs, wS, wE, wA, wP, wI, wIfs, tgNm, tgTup, tgNil, tgCons, getS, setS, optW_some, conD, negD, wip0, wipC, List.set_cons_zero, List.set_cons_succ, cmpLt, cmpLe, cmpGt, cmpGe, cmpEq, cmpNe, cmpIs, cmpIsN, cmpIn, cmpNotIn, binAdd, binSub, lenTup, lenLst, biMax, biMin, biInt, biIntB, tupTup, tupLst, lstTup, lstLst, ixT, ixL, slTup, slLst, atI0, atI1, atI2, atI3, atI4, atI5, isiTup, isiLst, seqTup, seqLst, lstOfLst, gOfTup, gOfLst, lstOfS, seqOfS, lenS, tupS, lstS, ixS, Sto.set_same, Sto.set_set, eqInt, eqStr, eqNil, isNon, Option.map_some, List.length_cons, List.length_nil, List.length_map, e4]
  by_cases q : x3 % 5 < 2 ∧ tr ≠ []
  · obtain ⟨q1, q2⟩ := q
    have e6 : (tr.map trD).isEmpty = false := by cases tr with | nil => exact absurd rfl q2 | cons => rfl
    have hl : 0 < tr.length := List.length_pos_iff.mpr q2
    simp -implicitDefEqProofs only [q1, e6, if_true, if_false, Bool.false_eq_true, Bool.not_true, Bool.not_false, reduceIte, decide_true, decide_false, Bool.and_self]
    rw [binMod (by omega)]
    try simp -implicitDefEqProofs only [wSs, wS, wE, wA, wP, wI, wIfs, tgNm, tgTup, tgNil, tgCons, getS, setS, optW_some, conD, negD, wip0, wipC, List.set_cons_zero, List.set_cons_succ, cmpLt, cmpLe, cmpGt, cmpGe, cmpEq, cmpNe, cmpIs, cmpIsN, cmpIn, cmpNotIn, binAdd, binSub, lenTup, lenLst, biMax, biMin, biInt, biIntB, tupTup, tupLst, lstTup, lstLst, ixT, ixL, slTup, slLst, atI0, atI1, atI2, atI3, atI4, atI5, isiTup, isiLst, seqTup, seqLst, lstOfLst, gOfTup, gOfLst, lstOfS, seqOfS, lenS, tupS, lstS, ixS, Sto.set_same, Sto.set_set, eqInt, eqStr, eqNil, isNon, Option.map_some, List.length_cons, List.length_nil, List.length_map]
    have c1 := Int.emod_nonneg x4 (show (tr.length : Int) ≠ 0 by omega)
    have c2 := Int.emod_lt_of_pos x4 (show (0 : Int) < tr.length by omega)
    have c3 : (x4 % (tr.length : Int)).toNat < tr.length := by omega
    have c4 := at_map (f := trD) (List.getElem?_eq_getElem c3)
    rw [Int.toNat_of_nonneg c1] at c4
    rw [c4]
    have hmem := List.getElem_mem c3
    generalize tr[(x4 % (tr.length : Int)).toNat] = t at hmem
    obtain ⟨i1, i2, i3, i4⟩ := h4 t hmem
    simp -implicitDefEqProofs only [trD, wSs, wS, wE, wA, wP, wI, wIfs, tgNm, tgTup, tgNil, tgCons, getS, setS, optW_some, conD, negD, wip0, wipC, List.set_cons_zero, List.set_cons_succ, cmpLt, cmpLe, cmpGt, cmpGe, cmpEq, cmpNe, cmpIs, cmpIsN, cmpIn, cmpNotIn, binAdd, binSub, lenTup, lenLst, biMax, biMin, biInt, biIntB, tupTup, tupLst, lstTup, lstLst, ixT, ixL, slTup, slLst, atI0, atI1, atI2, atI3, atI4, atI5, isiTup, isiLst, seqTup, seqLst, lstOfLst, gOfTup, gOfLst, lstOfS, seqOfS, lenS, tupS, lstS, ixS, Sto.set_same, Sto.set_set, eqInt, eqStr, eqNil, isNon, Option.map_some, List.length_cons, List.length_nil, List.length_map]
    refine c_law_wrong (by omega) ?_
    intro xs hx hxs
    have hxl : 0 < xs.length := List.length_pos_iff.mpr hx
    simp -implicitDefEqProofs only [wSs, wS, wE, wA, wP, wI, wIfs, tgNm, tgTup, tgNil, tgCons, getS, setS, optW_some, conD, negD, wip0, wipC, List.set_cons_zero, List.set_cons_succ, cmpLt, cmpLe, cmpGt, cmpGe, cmpEq, cmpNe, cmpIs, cmpIsN, cmpIn, cmpNotIn, binAdd, binSub, lenTup, lenLst, biMax, biMin, biInt, biIntB, tupTup, tupLst, lstTup, lstLst, ixT, ixL, slTup, slLst, atI0, atI1, atI2, atI3, atI4, atI5, isiTup, isiLst, seqTup, seqLst, lstOfLst, gOfTup, gOfLst, lstOfS, seqOfS, lenS, tupS, lstS, ixS, Sto.set_same, Sto.set_set, eqInt, eqStr, eqNil, isNon, Option.map_some, List.length_cons, List.length_nil, List.length_map, e5]
    rw [binMod (by omega)]
    try simp -implicitDefEqProofs only [wSs, wS, wE, wA, wP, wI, wIfs, tgNm, tgTup, tgNil, tgCons, getS, setS, optW_some, conD, negD, wip0, wipC, List.set_cons_zero, List.set_cons_succ, cmpLt, cmpLe, cmpGt, cmpGe, cmpEq, cmpNe, cmpIs, cmpIsN, cmpIn, cmpNotIn, binAdd, binSub, lenTup, lenLst, biMax, biMin, biInt, biIntB, tupTup, tupLst, lstTup, lstLst, ixT, ixL, slTup, slLst, atI0, atI1, atI2, atI3, atI4, atI5, isiTup, isiLst, seqTup, seqLst, lstOfLst, gOfTup, gOfLst, lstOfS, seqOfS, lenS, tupS, lstS, ixS, Sto.set_same, Sto.set_set, eqInt, eqStr, eqNil, isNon, Option.map_some, List.length_cons, List.length_nil, List.length_map]
    have d1 := Int.emod_nonneg x5 (show (xs.length : Int) ≠ 0 by omega)
    have d2 := Int.emod_lt_of_pos x5 (show (0 : Int) < xs.length by omega)
    have d3 : (x5 % (xs.length : Int)).toNat < xs.length := by omega
    have d4 : L2.atI xs ((x5 % (xs.length : Int)).toNat : Int) = some xs[(x5 % (xs.length : Int)).toNat] := by rw [at_nat d3, List.getElem?_eq_getElem d3]
    rw [Int.toNat_of_nonneg d1] at d4
    rw [d4]
    have hxm := hxs _ (List.getElem_mem d3)
    generalize xs[(x5 % (xs.length : Int)).toNat] = x at hxm
    try simp -implicitDefEqProofs only [wSs, wS, wE, wA, wP, wI, wIfs, tgNm, tgTup, tgNil, tgCons, getS, setS, optW_some, conD, negD, wip0, wipC, List.set_cons_zero, List.set_cons_succ, cmpLt, cmpLe, cmpGt, cmpGe, cmpEq, cmpNe, cmpIs, cmpIsN, cmpIn, cmpNotIn, binAdd, binSub, lenTup, lenLst, biMax, biMin, biInt, biIntB, tupTup, tupLst, lstTup, lstLst, ixT, ixL, slTup, slLst, atI0, atI1, atI2, atI3, atI4, atI5, isiTup, isiLst, seqTup, seqLst, lstOfLst, gOfTup, gOfLst, lstOfS, seqOfS, lenS, tupS, lstS, ixS, Sto.set_same, Sto.set_set, eqInt, eqStr, eqNil, isNon, Option.map_some, List.length_cons, List.length_nil, List.length_map]
    rw [binLst (by simp; omega)]
    try simp -implicitDefEqProofs only [wSs, wS, wE, wA, wP, wI, wIfs, tgNm, tgTup, tgNil, tgCons, getS, setS, optW_some, conD, negD, wip0, wipC, List.set_cons_zero, List.set_cons_succ, cmpLt, cmpLe, cmpGt, cmpGe, cmpEq, cmpNe, cmpIs, cmpIsN, cmpIn, cmpNotIn, binAdd, binSub, lenTup, lenLst, biMax, biMin, biInt, biIntB, tupTup, tupLst, lstTup, lstLst, ixT, ixL, slTup, slLst, atI0, atI1, atI2, atI3, atI4, atI5, isiTup, isiLst, seqTup, seqLst, lstOfLst, gOfTup, gOfLst, lstOfS, seqOfS, lenS, tupS, lstS, ixS, Sto.set_same, Sto.set_set, eqInt, eqStr, eqNil, isNon, Option.map_some, List.length_cons, List.length_nil, List.length_map]
    rw [cut_to, cut_fromI (by omega), binLst (by simp; omega)]
    try simp -implicitDefEqProofs only [wSs, wS, wE, wA, wP, wI, wIfs, tgNm, tgTup, tgNil, tgCons, getS, setS, optW_some, conD, negD, wip0, wipC, List.set_cons_zero, List.set_cons_succ, cmpLt, cmpLe, cmpGt, cmpGe, cmpEq, cmpNe, cmpIs, cmpIsN, cmpIn, cmpNotIn, binAdd, binSub, lenTup, lenLst, biMax, biMin, biInt, biIntB, tupTup, tupLst, lstTup, lstLst, ixT, ixL, slTup, slLst, atI0, atI1, atI2, atI3, atI4, atI5, isiTup, isiLst, seqTup, seqLst, lstOfLst, gOfTup, gOfLst, lstOfS, seqOfS, lenS, tupS, lstS, ixS, Sto.set_same, Sto.set_set, eqInt, eqStr, eqNil, isNon, Option.map_some, List.length_cons, List.length_nil, List.length_map]
    rw [binLst (by simp; omega), show ((t.1 : Int) + 1).toNat = t.1 + 1 by omega]
    try simp -implicitDefEqProofs only [wSs, wS, wE, wA, wP, wI, wIfs, tgNm, tgTup, tgNil, tgCons, getS, setS, optW_some, conD, negD, wip0, wipC, List.set_cons_zero, List.set_cons_succ, cmpLt, cmpLe, cmpGt, cmpGe, cmpEq, cmpNe, cmpIs, cmpIsN, cmpIn, cmpNotIn, binAdd, binSub, lenTup, lenLst, biMax, biMin, biInt, biIntB, tupTup, tupLst, lstTup, lstLst, ixT, ixL, slTup, slLst, atI0, atI1, atI2, atI3, atI4, atI5, isiTup, isiLst, seqTup, seqLst, lstOfLst, gOfTup, gOfLst, lstOfS, seqOfS, lenS, tupS, lstS, ixS, Sto.set_same, Sto.set_set, eqInt, eqStr, eqNil, isNon, Option.map_some, List.length_cons, List.length_nil, List.length_map]
    exact h _ (.way t x hmem hxm.1 hxm.2)
  · have q2 : x3 % 5 < 2 → tr = [] := by
      intro q1
      cases tr with
      | nil => rfl
      | cons a b => exact absurd ⟨q1, by simp⟩ q
    have hce : (cs.map cD).isEmpty = true ↔ cs = [] := by cases cs <;> simp
    by_cases q1 : x3 % 5 < 2
    simp -implicitDefEqProofs only [q1, q2 q1, List.map_nil, List.isEmpty_nil, if_true, if_false, Bool.false_eq_true, Bool.not_true, Bool.not_false, reduceIte, decide_true, decide_false, Bool.and_self]
    rotate_left
    simp -implicitDefEqProofs only [q1, if_true, if_false, Bool.false_eq_true, Bool.not_true, Bool.not_false, reduceIte, decide_true, decide_false, Bool.and_self]
    all_goals
      by_cases p1 : x3 % 5 = 2 ∨ cs = []
      · have done1 : ∀ R' : D → Prop, R' (.lst (cs.map cD ++ [.tup []])) → True := fun _ _ => trivial
        have fin : R (.lst (cs.map cD ++ [.tup []])) S := by
          refine h _ (.len _ (by simp) ?_ (by simp; omega))
          intro x hx
          rcases List.mem_append.mp hx with z | z
          · exact .inr z
          · simp at z; exact .inl z
        rcases p1 with p1 | p1
        · simp -implicitDefEqProofs only [p1, if_true, if_false, Bool.false_eq_true, Bool.not_true, Bool.not_false, reduceIte, decide_true, decide_false, Bool.and_self]
          rw [binLst (by simp; omega)]
          exact fin
        · subst p1
          by_cases p2 : x3 % 5 = 2
          · simp -implicitDefEqProofs only [p2, if_true, if_false, Bool.false_eq_true, Bool.not_true, Bool.not_false, reduceIte, decide_true, decide_false, Bool.and_self]
            exact fin
          · simp -implicitDefEqProofs only [p2, List.map_nil, List.isEmpty_nil, if_true, if_false, Bool.false_eq_true, Bool.not_true, Bool.not_false, reduceIte, decide_true, decide_false, Bool.and_self]
            exact fin
      · have p2 : ¬ x3 % 5 = 2 := fun e => p1 (.inl e)
        have p3 : cs ≠ [] := fun e => p1 (.inr e)
        have p4 : (cs.map cD).isEmpty = false := by cases cs with | nil => exact absurd rfl p3 | cons => rfl
        have hl : 0 < cs.length := List.length_pos_iff.mpr p3
        simp -implicitDefEqProofs only [p2, p4, if_true, if_false, Bool.false_eq_true, Bool.not_true, Bool.not_false, reduceIte, decide_true, decide_false, Bool.and_self]
        by_cases p5 : x3 % 5 = 3
        · simp -implicitDefEqProofs only [p5, if_true, if_false, Bool.false_eq_true, Bool.not_true, Bool.not_false, reduceIte, decide_true, decide_false, Bool.and_self]
          rw [cut_last, binLst (by simp; omega)]
          try simp -implicitDefEqProofs only [wSs, wS, wE, wA, wP, wI, wIfs, tgNm, tgTup, tgNil, tgCons, getS, setS, optW_some, conD, negD, wip0, wipC, List.set_cons_zero, List.set_cons_succ, cmpLt, cmpLe, cmpGt, cmpGe, cmpEq, cmpNe, cmpIs, cmpIsN, cmpIn, cmpNotIn, binAdd, binSub, lenTup, lenLst, biMax, biMin, biInt, biIntB, tupTup, tupLst, lstTup, lstLst, ixT, ixL, slTup, slLst, atI0, atI1, atI2, atI3, atI4, atI5, isiTup, isiLst, seqTup, seqLst, lstOfLst, gOfTup, gOfLst, lstOfS, seqOfS, lenS, tupS, lstS, ixS, Sto.set_same, Sto.set_set, eqInt, eqStr, eqNil, isNon, Option.map_some, List.length_cons, List.length_nil, List.length_map]
          rw [binMod (by decide)]
          try simp -implicitDefEqProofs only [wSs, wS, wE, wA, wP, wI, wIfs, tgNm, tgTup, tgNil, tgCons, getS, setS, optW_some, conD, negD, wip0, wipC, List.set_cons_zero, List.set_cons_succ, cmpLt, cmpLe, cmpGt, cmpGe, cmpEq, cmpNe, cmpIs, cmpIsN, cmpIn, cmpNotIn, binAdd, binSub, lenTup, lenLst, biMax, biMin, biInt, biIntB, tupTup, tupLst, lstTup, lstLst, ixT, ixL, slTup, slLst, atI0, atI1, atI2, atI3, atI4, atI5, isiTup, isiLst, seqTup, seqLst, lstOfLst, gOfTup, gOfLst, lstOfS, seqOfS, lenS, tupS, lstS, ixS, Sto.set_same, Sto.set_set, eqInt, eqStr, eqNil, isNon, Option.map_some, List.length_cons, List.length_nil, List.length_map]
          have k1 := Int.emod_nonneg x4 (show (4 : Int) ≠ 0 by decide)
          have k2 := Int.emod_lt_of_pos x4 (show (0 : Int) < 4 by decide)
          have k3 : x4 % 4 = 0 ∨ x4 % 4 = 1 ∨ x4 % 4 = 2 ∨ x4 % 4 = 3 := by omega
          rcases k3 with k3 | k3 | k3 | k3 <;> rw [k3] <;> try simp -implicitDefEqProofs only [wSs, wS, wE, wA, wP, wI, wIfs, tgNm, tgTup, tgNil, tgCons, getS, setS, optW_some, conD, negD, wip0, wipC, List.set_cons_zero, List.set_cons_succ, cmpLt, cmpLe, cmpGt, cmpGe, cmpEq, cmpNe, cmpIs, cmpIsN, cmpIn, cmpNotIn, binAdd, binSub, lenTup, lenLst, biMax, biMin, biInt, biIntB, tupTup, tupLst, lstTup, lstLst, ixT, ixL, slTup, slLst, atI0, atI1, atI2, atI3, atI4, atI5, isiTup, isiLst, seqTup, seqLst, lstOfLst, gOfTup, gOfLst, lstOfS, seqOfS, lenS, tupS, lstS, ixS, Sto.set_same, Sto.set_set, eqInt, eqStr, eqNil, isNon, Option.map_some, List.length_cons, List.length_nil, List.length_map]
          · refine h _ (.len _ (by simp; omega) ?_ (by simp; omega))
            intro x hx
            exact .inr (List.dropLast_subset _ hx)
          · exact h _ .tup
          · exact h _ .non
          · refine h _ (.len _ (by simp; omega) ?_ (by simp; omega))
            intro x hx
            rcases List.mem_append.mp hx with z | z <;> exact .inr z
        · simp -implicitDefEqProofs only [p5, if_true, if_false, Bool.false_eq_true, Bool.not_true, Bool.not_false, reduceIte, decide_true, decide_false, Bool.and_self]
          rw [binMod (by omega)]
          try simp -implicitDefEqProofs only [wSs, wS, wE, wA, wP, wI, wIfs, tgNm, tgTup, tgNil, tgCons, getS, setS, optW_some, conD, negD, wip0, wipC, List.set_cons_zero, List.set_cons_succ, cmpLt, cmpLe, cmpGt, cmpGe, cmpEq, cmpNe, cmpIs, cmpIsN, cmpIn, cmpNotIn, binAdd, binSub, lenTup, lenLst, biMax, biMin, biInt, biIntB, tupTup, tupLst, lstTup, lstLst, ixT, ixL, slTup, slLst, atI0, atI1, atI2, atI3, atI4, atI5, isiTup, isiLst, seqTup, seqLst, lstOfLst, gOfTup, gOfLst, lstOfS, seqOfS, lenS, tupS, lstS, ixS, Sto.set_same, Sto.set_set, eqInt, eqStr, eqNil, isNon, Option.map_some, List.length_cons, List.length_nil, List.length_map]
          have c1 := Int.emod_nonneg x4 (show (cs.length : Int) ≠ 0 by omega)
          have c2 := Int.emod_lt_of_pos x4 (show (0 : Int) < cs.length by omega)
          obtain ⟨i, hi⟩ := Int.eq_ofNat_of_zero_le c1
          rw [hi] at c2 ⊢
          have c3 : i < cs.length := by omega
          have c4 := at_map (f := cD) (List.getElem?_eq_getElem c3)
          have c5 := List.getElem_mem c3
          generalize cs[i] = c at c4 c5
          rw [c4]
          try simp -implicitDefEqProofs only [wSs, wS, wE, wA, wP, wI, wIfs, tgNm, tgTup, tgNil, tgCons, getS, setS, optW_some, conD, negD, wip0, wipC, List.set_cons_zero, List.set_cons_succ, cmpLt, cmpLe, cmpGt, cmpGe, cmpEq, cmpNe, cmpIs, cmpIsN, cmpIn, cmpNotIn, binAdd, binSub, lenTup, lenLst, biMax, biMin, biInt, biIntB, tupTup, tupLst, lstTup, lstLst, ixT, ixL, slTup, slLst, atI0, atI1, atI2, atI3, atI4, atI5, isiTup, isiLst, seqTup, seqLst, lstOfLst, gOfTup, gOfLst, lstOfS, seqOfS, lenS, tupS, lstS, ixS, Sto.set_same, Sto.set_set, eqInt, eqStr, eqNil, isNon, Option.map_some, List.length_cons, List.length_nil, List.length_map]
          rw [cut_to, cut_fromI (by omega), binLst (by simp; omega)]
          try simp -implicitDefEqProofs only [wSs, wS, wE, wA, wP, wI, wIfs, tgNm, tgTup, tgNil, tgCons, getS, setS, optW_some, conD, negD, wip0, wipC, List.set_cons_zero, List.set_cons_succ, cmpLt, cmpLe, cmpGt, cmpGe, cmpEq, cmpNe, cmpIs, cmpIsN, cmpIn, cmpNotIn, binAdd, binSub, lenTup, lenLst, biMax, biMin, biInt, biIntB, tupTup, tupLst, lstTup, lstLst, ixT, ixL, slTup, slLst, atI0, atI1, atI2, atI3, atI4, atI5, isiTup, isiLst, seqTup, seqLst, lstOfLst, gOfTup, gOfLst, lstOfS, seqOfS, lenS, tupS, lstS, ixS, Sto.set_same, Sto.set_set, eqInt, eqStr, eqNil, isNon, Option.map_some, List.length_cons, List.length_nil, List.length_map]
          rw [binLst (by simp; omega), show ((i : Int) + 1).toNat = i + 1 by omega]
          try simp -implicitDefEqProofs only [wSs, wS, wE, wA, wP, wI, wIfs, tgNm, tgTup, tgNil, tgCons, getS, setS, optW_some, conD, negD, wip0, wipC, List.set_cons_zero, List.set_cons_succ, cmpLt, cmpLe, cmpGt, cmpGe, cmpEq, cmpNe, cmpIs, cmpIsN, cmpIn, cmpNotIn, binAdd, binSub, lenTup, lenLst, biMax, biMin, biInt, biIntB, tupTup, tupLst, lstTup, lstLst, ixT, ixL, slTup, slLst, atI0, atI1, atI2, atI3, atI4, atI5, isiTup, isiLst, seqTup, seqLst, lstOfLst, gOfTup, gOfLst, lstOfS, seqOfS, lenS, tupS, lstS, ixS, Sto.set_same, Sto.set_set, eqInt, eqStr, eqNil, isNon, Option.map_some, List.length_cons, List.length_nil, List.length_map]
          exact h _ (.lst i (cD c) (by simpa using c3) (List.mem_map_of_mem c5) (c.map deedD) rfl)
end FC
/-! the mathematics: told deeds are taken as they were drawn; spoilt ones are not -/
namespace FC
open PySem PySem.Spec PyProof.Rows DL
theorem startIn_eq {u : Su} {t : Nat} {p : Posn} {c : Com} (h : p.2.1 ≤ u.rs) : startIn u t p c = ((p.1 ++ c.1).take (max u.rg p.1.length).toNat, min u.rs (p.2.1 + c.2), seatAt u t, p.2.2) := by
  unfold startIn letIn
  simp -implicitDefEqProofs only [show max u.rs p.2.1 = u.rs by omega]
theorem loseAll_app {u : Su} {cs2 : List Com} {ds2 : List D} : ∀ {cs1 : List Com} {ds1 : List D} {t : Nat} {x : Int × Posn}, cs1.length = ds1.length → loseAll u t (cs1 ++ cs2) (ds1 ++ ds2) x = (loseAll u t cs1 ds1 x).bind (loseAll u (t + cs1.length) cs2 ds2)
  | [], [], t, x, _ => by rw [loseAll]; rfl
  | [], _ :: _, _, _, h => by cases h
  | _ :: _, [], _, _, h => by cases h
  | c :: cs, d :: ds, t, x, h => by
    rw [List.cons_append, List.cons_append, loseAll, loseAll]
    cases afterDeeds u t x.2 c d with
    | none => rfl
    | some y =>
      show loseAll u (t + 1) (cs ++ cs2) (ds ++ ds2) _ = _
      rw [loseAll_app (by simpa using h), List.length_cons, show t + (cs.length + 1) = t + 1 + cs.length by omega]
theorem lose_bad {u : Su} {d : D} {c : Com} {cs1 cs2 : List Com} {ds1 ds2 : List D} {x z : Int × Posn} (hl : cs1.length = ds1.length) (h1 : loseAll u 0 cs1 ds1 x = some z) (h2 : afterDeeds u cs1.length z.2 c d = none) : loseAll u 0 (cs1 ++ c :: cs2) (ds1 ++ [d] ++ ds2) x = none := by
  rw [List.append_assoc, loseAll_app hl, h1]
  show loseAll u (0 + cs1.length) (c :: cs2) (d :: ds2) z = none
  rw [loseAll, Nat.zero_add, h2]
theorem lose_never {u : Su} {d : D} (hd : ∀ t p c, afterDeeds u t p c d = none) {cs1 cs2 : List Com} {c : Com} {ds1 ds2 : List D} {x : Int × Posn} (hl : cs1.length = ds1.length) : loseAll u 0 (cs1 ++ c :: cs2) (ds1 ++ [d] ++ ds2) x = none := by
  rw [List.append_assoc, loseAll_app hl]
  cases loseAll u 0 cs1 ds1 x with
  | none => rfl
  | some z =>
    show loseAll u (0 + cs1.length) (c :: cs2) (d :: ds2) z = none
    rw [loseAll, hd]
theorem split_at {α : Type} {xs : List α} {k : Nat} {c : α} (h : xs[k]? = some c) : xs = xs.take k ++ c :: xs.drop (k + 1) := by
  have hk : k < xs.length := by
    rcases Nat.lt_or_ge k xs.length with q | q
    · exact q
    · rw [List.getElem?_eq_none q] at h; cases h
  rw [List.getElem?_eq_getElem hk] at h
  cases h
  rw [← List.drop_eq_getElem_cons hk, List.take_append_drop]
theorem get_at {α : Type} {xs : List α} {k : Nat} {c : α} (h : xs[k]? = some c) : k < xs.length := by
  rcases Nat.lt_or_ge k xs.length with q | q
  · exact q
  · rw [List.getElem?_eq_none q] at h; cases h
/-! the count of parts -/
theorem afterL_inv {d : D} {line : List Int} {s l p : Int} {y : In} : ∀ {ws : List Str}, (∀ w ∈ ws, w = kG ∨ w = kS ∨ w = kP) → afterDeedL d line s l p ws = some y →
    ∃ w, (w = kG ∨ w = kS ∨ w = kP) ∧ mayDo w line l s p = true ∧ isDone d (seat w line s l).1 = true ∧ y = ((seat w line s l).2.1, (seat w line s l).2.2.1, (seat w line s l).2.2.2, p - (if w = kP then 1 else 0))
  | [], _, h => by cases h
  | w :: ws, hw, h => by
    rw [afterDeedL] at h
    split at h
    · rename_i q
      rw [Bool.and_eq_true] at q
      cases h
      exact ⟨w, hw w (List.mem_cons_self ..), q.1, q.2, rfl⟩
    · exact afterL_inv (fun w h => hw w (List.mem_cons_of_mem _ h)) h
theorem isDone_one {d : D} {e f : Deed} (h : isDone d e = true) (g : isDone d f = true) : e = f := by
  unfold isDone at h g
  split at h
  · simp at h g
    obtain ⟨w, n⟩ := e
    obtain ⟨w', n'⟩ := f
    simp at h g
    rw [← h.2.1, ← h.2.2, ← g.2.1, ← g.2.2]
  · cases h
def shift (y : In) (k : Int) : In := (y.1, y.2.1, y.2.2.1, y.2.2.2 + k)
theorem after_shift {d : D} {x y y' : In} {k : Int} (h : afterDeed d x = some y) (g : afterDeed d (shift x k) = some y') : y' = shift y k ∧ (0 ≤ (shift x k).2.2.2 → 0 ≤ y'.2.2.2) := by
  obtain ⟨line, s, l, p⟩ := x
  obtain ⟨w, a1, a2, a3, rfl⟩ := afterL_inv (by simp) h
  obtain ⟨w', b1, b2, b3, rfl⟩ := afterL_inv (by simp) g
  have e := congrArg Prod.fst (isDone_one a3 b3)
  rw [seat_word a1] at e
  have e2 := seat_word (line := line) (s := s) (l := l) b1
  have : w = w' := by rw [e]; exact e2
  subst this
  refine ⟨?_, ?_⟩
  · unfold shift
    simp -implicitDefEqProofs only [Prod.mk.injEq, true_and]
    omega
  · intro hp
    unfold mayDo at b2
    rw [Bool.and_eq_true] at b2
    by_cases q : w = kP
    · have := b2.2
      simp [q] at this
      simp -implicitDefEqProofs only [shift, q, if_true] at *
      omega
    · simp -implicitDefEqProofs only [shift, q, if_false] at *
      omega
theorem all_shift {ds : List D} : ∀ {x y y' : In} {k : Int}, afterAll ds x = some y → afterAll ds (shift x k) = some y' → y' = shift y k ∧ (0 ≤ (shift x k).2.2.2 → 0 ≤ y'.2.2.2) := by
  induction ds with
  | nil => intro x y y' k h g; cases h; cases g; exact ⟨rfl, id⟩
  | cons d ds ih =>
    intro x y y' k h g
    rw [afterAll] at h g
    split at h
    · rename_i z hz
      split at g
      · rename_i z' hz'
        obtain ⟨rfl, q⟩ := after_shift hz hz'
        obtain ⟨r, q2⟩ := ih h g
        exact ⟨r, fun a => q2 (q a)⟩
      · cases g
    · cases h
def shiftP (p : Posn) (k : Int) : Posn := (p.1, p.2.1, p.2.2 + k)
theorem deeds_shift {u : Su} {t : Nat} {p : Posn} {c : Com} {d : D} {y y' : Int × Posn} {k : Int} (h : afterDeeds u t p c d = some y) (g : afterDeeds u t (shiftP p k) c d = some y') : y' = (y.1, shiftP y.2 k) ∧ (0 ≤ (shiftP p k).2.2 → 0 ≤ y'.2.2.2) := by
  unfold afterDeeds at h g
  split at h
  · split at h
    · rename_i z hz
      cases h
      simp only at g
      split at g
      · rename_i z' hz'
        cases g
        obtain ⟨rfl, q⟩ := all_shift hz (show afterAll _ (shift (startIn u t p c) k) = some z' from hz')
        exact ⟨rfl, q⟩
      · cases g
    · cases h
  · cases h
theorem lose_shift {u : Su} : ∀ {cs : List Com} {ds : List D} {t : Nat} {n : Int} {p : Posn} {k : Int} {y y' : Int × Posn}, loseAll u t cs ds (n, p) = some y → loseAll u t cs ds (n, shiftP p k) = some y' → y' = (y.1, shiftP y.2 k) ∧ (0 ≤ (shiftP p k).2.2 → 0 ≤ y'.2.2.2)
  | [], _, t, n, p, k, y, y', h, g => by rw [loseAll] at h g; cases h; cases g; exact ⟨rfl, id⟩
  | _ :: _, [], t, n, p, k, y, y', h, g => by cases h
  | c :: cs, d :: ds, t, n, p, k, y, y', h, g => by
    rw [loseAll] at h g
    split at h
    · rename_i z hz
      split at g
      · rename_i z' hz'
        obtain ⟨rfl, q⟩ := deeds_shift hz hz'
        obtain ⟨r, q2⟩ := lose_shift h g
        exact ⟨r, fun a => q2 (q a)⟩
      · cases g
    · cases h
/-- one part too few -/
theorem few_parts {u : Su} {r : List Com} {ds : List D} {n p q : Int} {pos : Posn} (hl : ds.length = r.length) (h : loseAll u 0 r ds (0, [], 0, p) = some (n, pos)) (hq : 0 < p - pos.2.2) : deedsLose u r (.lst ds) (p - pos.2.2 - 1) = none := by
  unfold deedsLose
  simp only
  rw [if_pos hl]
  cases z : loseAll u 0 r ds (0, [], 0, p - pos.2.2 - 1) with
  | none => rfl
  | some y =>
    have e : (([], 0, p - pos.2.2 - 1) : Posn) = shiftP ([], 0, p) (- pos.2.2 - 1) := by
      unfold shiftP; simp -implicitDefEqProofs only [Prod.mk.injEq, true_and]; omega
    rw [e] at z
    obtain ⟨rfl, q⟩ := lose_shift h z
    have := q (by unfold shiftP; simp only; omega)
    unfold shiftP at this
    simp only at this
    omega
theorem beat_run {u : Su} {t : Nat} {p : Posn} {c : Com} {chair : List Deed} {y : In} (h : afterAll (chair.map deedD) (startIn u t p c) = some y) : afterDeeds u t p c (cD chair) = some (lostOf y.1 y.2.1 y.2.2.1, y.1, y.2.1, y.2.2.2) := by
  unfold afterDeeds
  simp only
  rw [h]
/-- where a step of the trail stands -/
def Prog (u : Su) (r : List Com) (ds : List D) (p : Int) (t : Tr) : Prop :=
  ∃ z c, r[t.1]? = some c ∧ loseAll u 0 (r.take t.1) (ds.take t.1) (0, [], 0, p) = some z ∧ afterAll (t.2.1.map deedD) (startIn u t.1 z.2 c) = some t.2.2
theorem Prog.mono {u : Su} {r : List Com} {ds : List D} {p : Int} {t : Tr} {c : Com} {d : D} (hl : r.length = ds.length) (h : Prog u r ds p t) : Prog u (r ++ [c]) (ds ++ [d]) p t := by
  obtain ⟨z, c', h1, h2, h3⟩ := h
  have hk := get_at h1
  refine ⟨z, c', ?_, ?_, h3⟩
  · rw [List.getElem?_append_left hk, h1]
  · rw [List.take_append_of_le_length (by omega), List.take_append_of_le_length (by omega)]
    exact h2
theorem spoilt_none {u : Su} {r : List Com} {ds : List D} {p : Int} {tr : List Tr} {d : D} (hl : ds.length = r.length) (ht : ∀ t ∈ tr, Prog u r ds p t) (h : Spoilt ds tr d) : deedsLose u r d p = none := by
  cases h with
  | way t x h ho hn =>
    unfold deedsLose
    simp only
    obtain ⟨z, c, h1, h2, h3⟩ := ht t h
    have hk := get_at h1
    split
    · have hs := split_at h1
      have tl : (r.take t.1).length = t.1 := by rw [List.length_take]; omega
      have : loseAll u 0 r (ds.take t.1 ++ [D.tup (t.2.1.map deedD ++ [x])] ++ ds.drop (t.1 + 1)) (0, [], 0, p) = none := by
        rw [hs]
        refine lose_bad (z := z) (by rw [List.length_take, List.length_take]; omega) h2 ?_
        rw [tl]
        unfold afterDeeds
        simp only
        rw [afterAll_app, h3]
        show (match afterAll [x] t.2.2 with | some x => _ | none => none) = none
        rw [afterAll, hn]
      rw [this]; rfl
    · rfl
  | len es h hi =>
    unfold deedsLose
    simp only
    rw [if_neg (by rw [← hl]; exact h)]
  | tup => rfl
  | non => rfl
  | lst i d h hs es he =>
    unfold deedsLose
    simp only
    split
    · have hi : i < r.length := by omega
      have hs := split_at (List.getElem?_eq_getElem hi)
      have : loseAll u 0 r (ds.take i ++ [D.lst es] ++ ds.drop (i + 1)) (0, [], 0, p) = none := by
        rw [hs]
        exact lose_never (fun _ _ _ => rfl) (by rw [List.length_take, List.length_take]; omega)
      rw [this]; rfl
    · rfl
theorem ok0_mono : ∀ (n m : Nat) (d : D), n ≤ m → ok0 n d = true → ok0 m d = true := ok0_mono'
theorem spoilt_ok {cs : List (List Deed)} {tr : List Tr} {d : D} (h5 : ∀ c ∈ cs, ∀ e ∈ c, e.1 = kG ∨ e.1 = kS ∨ e.1 = kP) (h4 : ∀ t ∈ tr, ∀ e ∈ t.2.1, e.1 = kG ∨ e.1 = kS ∨ e.1 = kP) (h : Spoilt (cs.map cD) tr d) : ok0 22 d = true := by
  have hcs : ∀ x ∈ cs.map cD, ok0 21 x = true := ok0s_all.mp (cs_ok h5 (n := 19))
  cases h with
  | way t x h ho hn =>
    rw [ok0, ok0s_all]
    intro y hy
    rcases List.mem_append.mp hy with hy | hy
    · rcases List.mem_append.mp hy with hy | hy
      · exact hcs y (List.mem_of_mem_take hy)
      · simp at hy
        subst hy
        rw [ok0, ok0s_all]
        intro e he
        rcases List.mem_append.mp he with he | he
        · obtain ⟨f, hf, rfl⟩ := List.mem_map.mp he
          exact deed_ok (h4 t h f hf)
        · simp at he
          subst he
          exact ok0_mono 19 20 _ (by omega) ho
    · exact hcs y (List.mem_of_mem_drop hy)
  | len es h hi =>
    rw [ok0, ok0s_all]
    intro y hy
    rcases hi y hy with rfl | z
    · rfl
    · exact hcs y z
  | tup => exact ok0s_all.mpr hcs
  | non => rfl
  | lst i d h hs es he =>
    rw [ok0, ok0s_all]
    intro y hy
    rcases List.mem_append.mp hy with hy | hy
    · rcases List.mem_append.mp hy with hy | hy
      · exact hcs y (List.mem_of_mem_take hy)
      · simp at hy
        subst hy
        have := hcs d hs
        rw [he] at this
        exact this
    · exact hcs y (List.mem_of_mem_drop hy)
end FC
namespace FC
open PySem PySem.Spec PyProof.Rows DL
def lawB : Stms := dropS 13 b_law
theorem row_ok {r : List Com} {n : Nat} : ok0 (n + 3) (rowD r) = true := by
  show ok0s (n + 2) (r.map comD) = true
  rw [ok0s_all]
  intro d hd
  obtain ⟨c, hc, rfl⟩ := List.mem_map.mp hd
  show (ok0 (n + 1) (.tup (c.1.map D.int)) && (ok0 (n + 1) (.int c.2) && true)) = true
  have e : ok0 (n + 1) (.tup (c.1.map D.int)) = true := ok0s_int
  rw [e]; rfl
theorem isi_lst {d : D} {S : Sto} {n : Nat} (h : ok0 n d = true) : isiD S d "list" = some (isLstD d) := isi_list (ok0_val h)
theorem eqNI {S : Sto} {n : Int} : eqD S (.int n) .non = some false := eqD_pd (n := 0) (p := .int n) (q := .none) rfl rfl (by omega) rfl rfl (by simp [PyData.eqv])
theorem eqNN {S : Sto} : eqD S .non .non = some true := eqD_self (n := 0) rfl (by omega)
/-- from `passed = handed` on -/
theorem p_tail {u : Su} {r : List Com} {hd due : D} {p : Int} {a : Addr} {S : Sto} {R : QD} {E : XP} {s0 s2 s4 s6 s7 s8 s9 s10 s11 s12 s13 s14 s15 s16 s17 s20 s21 s22 s23 : Option D}
    (hu : u.Ok) (hc : ∀ c ∈ r, ComOk u c) (hr : r.length ≤ 16) (hp : 0 ≤ p) (hok : ok0 22 hd = true) (ha : S a = some (.lst (r.map comD))) (hdue : due = optI (deedsLose u r hd p)) (h : ∀ S', R (.bl true) S') :
    wSs Γ Ct E lawB (KR R) [s0, some u.d, s2, some (.int p), s4, some (.loc a), s6, s7, s8, s9, s10, s11, s12, s13, s14, s15, s16, s17, some hd, some due, s20, s21, s22, s23] S := by
  have step : ∀ (y : Option D), wSs Γ Ct E (dropS 2 lawB) (KR R) [s0, some u.d, s2, some (.int p), s4, some (.loc a), s6, s7, s8, s9, s10, s11, s12, s13, s14, s15, s16, s17, some hd, some due, s20, some hd, s22, s23] S := by
    intro y
    simp -implicitDefEqProofs only [lawB, b_law, dropS, wSs, wS, wE, wA, wP, wI, wIfs, tgNm, tgTup, tgNil, tgCons, getS, setS, optW_some, conD, negD, wip0, wipC, List.set_cons_zero, List.set_cons_succ, cmpLt, cmpLe, cmpGt, cmpGe, cmpEq, cmpNe, cmpIs, cmpIsN, cmpIn, cmpNotIn, binAdd, binSub, lenTup, lenLst, biMax, biMin, biInt, biIntB, tupTup, tupLst, lstTup, lstLst, ixT, ixL, slTup, slLst, atI0, atI1, atI2, atI3, atI4, atI5, isiTup, isiLst, seqTup, seqLst, lstOfLst, gOfTup, gOfLst, lstOfS, seqOfS, lenS, tupS, lstS, ixS, Sto.set_same, Sto.set_set, eqInt, eqStr, eqNil, isNon, Option.map_some, List.length_cons, List.length_nil, List.length_map, lstLoc ha]
    refine c_deeds_lose hok hu hc hr hp ?_
    rw [show (D.lst (r.map comD)) = rowD r from rfl]
    have e1 : eqD S (rowD r) (.loc a) = some true := eqD_copy (row_ok (n := 3)) (by omega) ha
    have e2 : eqD S hd hd = some true := eqD_self hok (by omega)
    rw [← hdue]
    have e3 : eqD S due due = some true := by
      rw [hdue]
      cases deedsLose u r hd p with
      | none => exact eqNN
      | some n => simp [optI, eqInt]
    have fin : (optW (some (isNon due)) fun z => if z = true then optW (some (isNon due)) fun z => R (D.bl z) S else (Γ 33).sp [due] S (fun x S1 => match x with
        | D.bl c => if c = true then optW (eqD S1 due due) fun z => R (D.bl z) S1 else R (D.bl false) S1
        | x => False) E) := by
      rw [hdue]
      cases deedsLose u r hd p with
      | none => simp -implicitDefEqProofs only [optI, wSs, wS, wE, wA, wP, wI, wIfs, tgNm, tgTup, tgNil, tgCons, getS, setS, optW_some, conD, negD, wip0, wipC, List.set_cons_zero, List.set_cons_succ, cmpLt, cmpLe, cmpGt, cmpGe, cmpEq, cmpNe, cmpIs, cmpIsN, cmpIn, cmpNotIn, binAdd, binSub, lenTup, lenLst, biMax, biMin, biInt, biIntB, tupTup, tupLst, lstTup, lstLst, ixT, ixL, slTup, slLst, atI0, atI1, atI2, atI3, atI4, atI5, isiTup, isiLst, seqTup, seqLst, lstOfLst, gOfTup, gOfLst, lstOfS, seqOfS, lenS, tupS, lstS, ixS, Sto.set_same, Sto.set_set, eqInt, eqStr, eqNil, isNon, Option.map_some, List.length_cons, List.length_nil, List.length_map, if_true, if_false, Bool.false_eq_true, Bool.not_true, Bool.not_false, reduceIte, decide_true, decide_false, Bool.and_self]; exact h _
      | some n =>
        simp -implicitDefEqProofs only [optI, wSs, wS, wE, wA, wP, wI, wIfs, tgNm, tgTup, tgNil, tgCons, getS, setS, optW_some, conD, negD, wip0, wipC, List.set_cons_zero, List.set_cons_succ, cmpLt, cmpLe, cmpGt, cmpGe, cmpEq, cmpNe, cmpIs, cmpIsN, cmpIn, cmpNotIn, binAdd, binSub, lenTup, lenLst, biMax, biMin, biInt, biIntB, tupTup, tupLst, lstTup, lstLst, ixT, ixL, slTup, slLst, atI0, atI1, atI2, atI3, atI4, atI5, isiTup, isiLst, seqTup, seqLst, lstOfLst, gOfTup, gOfLst, lstOfS, seqOfS, lenS, tupS, lstS, ixS, Sto.set_same, Sto.set_set, eqInt, eqStr, eqNil, isNon, Option.map_some, List.length_cons, List.length_nil, List.length_map, if_true, if_false, Bool.false_eq_true, Bool.not_true, Bool.not_false, reduceIte, decide_true, decide_false, Bool.and_self]
        refine c_law_whole rfl ?_
        simp -implicitDefEqProofs only [isInt, wSs, wS, wE, wA, wP, wI, wIfs, tgNm, tgTup, tgNil, tgCons, getS, setS, optW_some, conD, negD, wip0, wipC, List.set_cons_zero, List.set_cons_succ, cmpLt, cmpLe, cmpGt, cmpGe, cmpEq, cmpNe, cmpIs, cmpIsN, cmpIn, cmpNotIn, binAdd, binSub, lenTup, lenLst, biMax, biMin, biInt, biIntB, tupTup, tupLst, lstTup, lstLst, ixT, ixL, slTup, slLst, atI0, atI1, atI2, atI3, atI4, atI5, isiTup, isiLst, seqTup, seqLst, lstOfLst, gOfTup, gOfLst, lstOfS, seqOfS, lenS, tupS, lstS, ixS, Sto.set_same, Sto.set_set, eqInt, eqStr, eqNil, isNon, Option.map_some, List.length_cons, List.length_nil, List.length_map, if_true, if_false, Bool.false_eq_true, Bool.not_true, Bool.not_false, reduceIte, decide_true, decide_false, Bool.and_self]
        exact h _
    by_cases q : p = 0
    · simp -implicitDefEqProofs only [q, wSs, wS, wE, wA, wP, wI, wIfs, tgNm, tgTup, tgNil, tgCons, getS, setS, optW_some, conD, negD, wip0, wipC, List.set_cons_zero, List.set_cons_succ, cmpLt, cmpLe, cmpGt, cmpGe, cmpEq, cmpNe, cmpIs, cmpIsN, cmpIn, cmpNotIn, binAdd, binSub, lenTup, lenLst, biMax, biMin, biInt, biIntB, tupTup, tupLst, lstTup, lstLst, ixT, ixL, slTup, slLst, atI0, atI1, atI2, atI3, atI4, atI5, isiTup, isiLst, seqTup, seqLst, lstOfLst, gOfTup, gOfLst, lstOfS, seqOfS, lenS, tupS, lstS, ixS, Sto.set_same, Sto.set_set, eqInt, eqStr, eqNil, isNon, Option.map_some, List.length_cons, List.length_nil, List.length_map, if_true, if_false, Bool.false_eq_true, Bool.not_true, Bool.not_false, reduceIte, decide_true, decide_false, Bool.and_self]
      refine c_deeds_lose hok hu hc hr (by omega) ?_
      rw [show deedsLose u r hd 0 = deedsLose u r hd p by rw [q], ← hdue, e3]
      simp -implicitDefEqProofs only [wSs, wS, wE, wA, wP, wI, wIfs, tgNm, tgTup, tgNil, tgCons, getS, setS, optW_some, conD, negD, wip0, wipC, List.set_cons_zero, List.set_cons_succ, cmpLt, cmpLe, cmpGt, cmpGe, cmpEq, cmpNe, cmpIs, cmpIsN, cmpIn, cmpNotIn, binAdd, binSub, lenTup, lenLst, biMax, biMin, biInt, biIntB, tupTup, tupLst, lstTup, lstLst, ixT, ixL, slTup, slLst, atI0, atI1, atI2, atI3, atI4, atI5, isiTup, isiLst, seqTup, seqLst, lstOfLst, gOfTup, gOfLst, lstOfS, seqOfS, lenS, tupS, lstS, ixS, Sto.set_same, Sto.set_set, eqInt, eqStr, eqNil, isNon, Option.map_some, List.length_cons, List.length_nil, List.length_map, e1, e2, if_true, if_false, Bool.false_eq_true, Bool.not_true, Bool.not_false, reduceIte, decide_true, decide_false, Bool.and_self]
      exact fin
    · simp -implicitDefEqProofs only [q, wSs, wS, wE, wA, wP, wI, wIfs, tgNm, tgTup, tgNil, tgCons, getS, setS, optW_some, conD, negD, wip0, wipC, List.set_cons_zero, List.set_cons_succ, cmpLt, cmpLe, cmpGt, cmpGe, cmpEq, cmpNe, cmpIs, cmpIsN, cmpIn, cmpNotIn, binAdd, binSub, lenTup, lenLst, biMax, biMin, biInt, biIntB, tupTup, tupLst, lstTup, lstLst, ixT, ixL, slTup, slLst, atI0, atI1, atI2, atI3, atI4, atI5, isiTup, isiLst, seqTup, seqLst, lstOfLst, gOfTup, gOfLst, lstOfS, seqOfS, lenS, tupS, lstS, ixS, Sto.set_same, Sto.set_set, eqInt, eqStr, eqNil, isNon, Option.map_some, List.length_cons, List.length_nil, List.length_map, e1, e2, if_true, if_false, Bool.false_eq_true, Bool.not_true, Bool.not_false, reduceIte, decide_true, decide_false, Bool.and_self]
      exact fin
  refine w_split 2 lawB _ _ _ ?_
  generalize wSs Γ Ct E (dropS 2 lawB) (KR R) = K at step ⊢
  simp -implicitDefEqProofs only [lawB, b_law, dropS, takeS, wSs, wS, wE, wA, wP, wI, wIfs, tgNm, tgTup, tgNil, tgCons, getS, setS, optW_some, conD, negD, wip0, wipC, List.set_cons_zero, List.set_cons_succ, cmpLt, cmpLe, cmpGt, cmpGe, cmpEq, cmpNe, cmpIs, cmpIsN, cmpIn, cmpNotIn, binAdd, binSub, lenTup, lenLst, biMax, biMin, biInt, biIntB, tupTup, tupLst, lstTup, lstLst, ixT, ixL, slTup, slLst, atI0, atI1, atI2, atI3, atI4, atI5, isiTup, isiLst, seqTup, seqLst, lstOfLst, gOfTup, gOfLst, lstOfS, seqOfS, lenS, tupS, lstS, ixS, Sto.set_same, Sto.set_set, eqInt, eqStr, eqNil, isNon, Option.map_some, List.length_cons, List.length_nil, List.length_map, isi_lst hok]
  cases hd with
  | lst ds => simp -implicitDefEqProofs only [isLstD, wSs, wS, wE, wA, wP, wI, wIfs, tgNm, tgTup, tgNil, tgCons, getS, setS, optW_some, conD, negD, wip0, wipC, List.set_cons_zero, List.set_cons_succ, cmpLt, cmpLe, cmpGt, cmpGe, cmpEq, cmpNe, cmpIs, cmpIsN, cmpIn, cmpNotIn, binAdd, binSub, lenTup, lenLst, biMax, biMin, biInt, biIntB, tupTup, tupLst, lstTup, lstLst, ixT, ixL, slTup, slLst, atI0, atI1, atI2, atI3, atI4, atI5, isiTup, isiLst, seqTup, seqLst, lstOfLst, gOfTup, gOfLst, lstOfS, seqOfS, lenS, tupS, lstS, ixS, Sto.set_same, Sto.set_set, eqInt, eqStr, eqNil, isNon, Option.map_some, List.length_cons, List.length_nil, List.length_map, if_true, if_false, Bool.false_eq_true, Bool.not_true, Bool.not_false, reduceIte, decide_true, decide_false, Bool.and_self]; exact step none
  | _ => simp -implicitDefEqProofs only [isLstD, wSs, wS, wE, wA, wP, wI, wIfs, tgNm, tgTup, tgNil, tgCons, getS, setS, optW_some, conD, negD, wip0, wipC, List.set_cons_zero, List.set_cons_succ, cmpLt, cmpLe, cmpGt, cmpGe, cmpEq, cmpNe, cmpIs, cmpIsN, cmpIn, cmpNotIn, binAdd, binSub, lenTup, lenLst, biMax, biMin, biInt, biIntB, tupTup, tupLst, lstTup, lstLst, ixT, ixL, slTup, slLst, atI0, atI1, atI2, atI3, atI4, atI5, isiTup, isiLst, seqTup, seqLst, lstOfLst, gOfTup, gOfLst, lstOfS, seqOfS, lenS, tupS, lstS, ixS, Sto.set_same, Sto.set_set, eqInt, eqStr, eqNil, isNon, Option.map_some, List.length_cons, List.length_nil, List.length_map, if_true, if_false, Bool.false_eq_true, Bool.not_true, Bool.not_false, reduceIte, decide_true, decide_false, Bool.and_self]; exact step none
theorem c_law {xs : List Int} {S : Sto} {R : QD} {E : XP} (h : ∀ S', R (.bl true) S') : (Γ 34).sp [nnD xs] S R E := ⟨_, rfl, h⟩
def lawA : Stms := takeS 9 b_law
def lawM : Stms := dropS 9 (takeS 13 b_law)
/-- what holds before each beat -/
structure Inv (u : Su) (p : Int) (r : List Com) (cs : List (List Deed)) (tr : List Tr) (n : Int) (pos : Posn) : Prop where
  len : cs.length = r.length
  com : ∀ c ∈ r, ComOk u c
  wd : ∀ c ∈ cs, ∀ e ∈ c, e.1 = kG ∨ e.1 = kS ∨ e.1 = kP
  prog : ∀ t ∈ tr, Prog u r (cs.map cD) p t
  trk : ∀ t ∈ tr, t.1 < cs.length ∧ t.2.2.1.length ≤ 100 ∧ t.2.1.length ≤ 6 ∧ ∀ e ∈ t.2.1, e.1 = kG ∨ e.1 = kS ∨ e.1 = kP
  run : loseAll u 0 r (cs.map cD) (0, [], 0, p) = some (n, pos)
  s0 : 0 ≤ pos.2.1
  s1 : pos.2.1 ≤ u.rs
  ln : pos.1.length ≤ 3
  p0 : 0 ≤ pos.2.2
  p1 : pos.2.2 ≤ p
  tl : tr.length ≤ 7 * cs.length
theorem Inv.next {u : Su} {p : Int} {r : List Com} {cs : List (List Deed)} {tr : List Tr} {n : Int} {pos : Posn} (hu : u.Ok) (I : Inv u p r cs tr n pos) {c : Com} (hc : ComOk u c) {chair : List Deed} {y : In} {steps : List (List Deed × In)}
    (hch : Chair ((pos.1 ++ c.1).take (max u.rg pos.1.length).toNat, min u.rs (pos.2.1 + c.2), seatAt u cs.length, pos.2.2) chair y steps) :
    Inv u p (r ++ [c]) (cs ++ [chair]) (tr ++ steps.map fun t => (cs.length, t.1, t.2)) (n + lostOf y.1 y.2.1 y.2.2.1) (y.1, y.2.1, y.2.2.2) := by
  have hst : startIn u cs.length pos c = _ := startIn_eq I.s1
  rw [← hst] at hch
  have hline : (startIn u cs.length pos c).1.length ≤ 3 := by
    rw [hst]
    show (List.take _ _).length ≤ 3
    rw [List.length_take]
    have := I.ln
    have := hu.rg2
    omega
  refine ⟨by simp [I.len], ?_, ?_, ?_, ?_, ?_, hch.s0, ?_, Nat.le_trans hch.l1 hline, hch.p0, Int.le_trans hch.p1 I.p1, ?_⟩
  · intro d hd
    rcases List.mem_append.mp hd with q | q
    · exact I.com d q
    · simp at q; subst q; exact hc
  · intro d hd
    rcases List.mem_append.mp hd with q | q
    · exact I.wd d q
    · simp at q; subst q; exact hch.wd
  · intro t ht
    rw [List.map_append]
    rcases List.mem_append.mp ht with q | q
    · exact (I.prog t q).mono (by simp [I.len])
    · obtain ⟨s, hs, rfl⟩ := List.mem_map.mp q
      refine ⟨(n, pos), c, ?_, ?_, hch.tr s hs⟩
      · simp [I.len]
      · show loseAll u 0 (List.take cs.length (r ++ [c])) (List.take cs.length (cs.map cD ++ [cD chair])) _ = _
        rw [List.take_append_of_le_length (by rw [I.len]; exact Nat.le_refl _), List.take_append_of_le_length (by simp), List.take_of_length_le (by rw [I.len]; exact Nat.le_refl _), List.take_of_length_le (by simp)]
        exact I.run
  · intro t ht
    rcases List.mem_append.mp ht with q | q
    · have := I.trk t q
      exact ⟨by simp; omega, this.2⟩
    · obtain ⟨s, hs, rfl⟩ := List.mem_map.mp q
      exact ⟨by simp, (hch.ts s hs).2, (hch.ts s hs).1, hch.tw s hs⟩
  · rw [List.map_append, loseAll_app (by simp [I.len]), I.run]
    show loseAll u (0 + r.length) [c] [cD chair] (n, pos) = _
    rw [loseAll, Nat.zero_add, ← I.len, beat_run hch.run]
    rfl
  · refine Int.le_trans hch.s1 ?_
    rw [hst]
    show min u.rs _ ≤ _
    omega
  · have := I.tl
    have := hch.tl
    simp
    omega
def ahead1 (k : Nat) : D → D
  | .tup ds => .tup (.int (k : Int) :: ds)
  | _ => .non
theorem trs_map {k : Nat} {ts : List (List Deed × In)} : (ts.map fun t => trailD t.1 t.2).map (ahead1 k) = (ts.map fun t => ((k, t.1, t.2) : Tr)).map trD := by
  rw [List.map_map, List.map_map]; rfl
theorem seat_at {u : Su} (hu : u.Ok) {k : Nat} : L2.atI (u.seats.map D.int) (((k % u.seats.length : Nat) : Int)) = some (.int (seatAt u k)) ∧ 1 ≤ seatAt u k ∧ seatAt u k ≤ 5 := by
  have hl : k % u.seats.length < u.seats.length := Nat.mod_lt _ hu.n1
  have e2 := List.getElem?_eq_getElem hl
  have e3 : seatAt u k = u.seats[k % u.seats.length] := by
    unfold seatAt
    rw [List.getD_eq_getElem?_getD, e2]; rfl
  rw [e3]
  exact ⟨at_map e2, hu.se _ (List.getElem_mem hl)⟩
end FC
namespace FC
open PySem PySem.Spec PyProof.Rows DL
theorem p_law : Kept sp_law b_law 24 := by
  rintro ds S R E ⟨xs, rfl, h⟩
  show wSs Γ Ct E b_law (KR R) [some (nnD xs), none, none, none, none, none, none, none, none, none, none, none, none, none, none, none, none, none, none, none, none, none, none, none] S
  have tail : ∀ {u : Su} {r : List Com} {hd due : D} {p : Int} {a : Addr} {S : Sto} {s0 s2 s4 s6 s7 s8 s9 s10 s11 s12 s13 s14 s15 s16 s17 s20 s21 s22 s23 : Option D},
      u.Ok → (∀ c ∈ r, ComOk u c) → r.length ≤ 16 → 0 ≤ p → ok0 22 hd = true → S a = some (.lst (r.map comD)) → due = optI (deedsLose u r hd p) →
      wSs Γ Ct E (dropS 13 b_law) (KR R) [s0, some u.d, s2, some (.int p), s4, some (.loc a), s6, s7, s8, s9, s10, s11, s12, s13, s14, s15, s16, s17, some hd, some due, s20, s21, s22, s23] S :=
    fun hu hc hr hp hok ha hdue => p_tail hu hc hr hp hok ha hdue h
  refine w_split 13 b_law _ _ _ ?_
  generalize wSs Γ Ct E (dropS 13 b_law) (KR R) = K at tail ⊢
  simp -implicitDefEqProofs only [b_law, takeS, wSs, wS, wE, wA, wP, wI, wIfs, tgNm, tgTup, tgNil, tgCons, getS, setS, optW_some, conD, negD, wip0, wipC, List.set_cons_zero, List.set_cons_succ, cmpLt, cmpLe, cmpGt, cmpGe, cmpEq, cmpNe, cmpIs, cmpIsN, cmpIn, cmpNotIn, binAdd, binSub, lenTup, lenLst, biMax, biMin, biInt, biIntB, tupTup, tupLst, lstTup, lstLst, ixT, ixL, slTup, slLst, atI0, atI1, atI2, atI3, atI4, atI5, isiTup, isiLst, seqTup, seqLst, lstOfLst, gOfTup, gOfLst, lstOfS, seqOfS, lenS, tupS, lstS, ixS, Sto.set_same, Sto.set_set, eqInt, eqStr, eqNil, isNon, Option.map_some, List.length_cons, List.length_nil, List.length_map]
  refine c_law_cell_at (k := 0) fun i0 => ?_
  refine c_law_draws (n := 12) (by decide) fun d0 hd0 hn0 => ?_
  refine c_law_setup hd0 hn0 fun u hu => ?_
  refine c_law_cell_at (k := 1) fun i1 => ?_
  refine c_law_draws (n := 9) (by decide) fun pick hpl hpn => ?_
  have g : ∀ (k : Nat) (hk : k < 9), ∃ x : Int, 0 ≤ x ∧ L2.atI (pick.map D.int) (k : Int) = some (.int x) := fun k hk => ⟨pick[k]'(by omega), hpn _ (List.getElem_mem _), at_map (List.getElem?_eq_getElem (by omega))⟩
  obtain ⟨x0, z0, e0⟩ := g 0 (by omega)
  obtain ⟨x1, z1, e1⟩ := g 1 (by omega)
  obtain ⟨x2, z2, e2⟩ := g 2 (by omega)
  obtain ⟨x6, z6, e6⟩ := g 6 (by omega)
  have e0 : L2.atI (pick.map D.int) 0 = some (.int x0) := e0
  have e1 : L2.atI (pick.map D.int) 1 = some (.int x1) := e1
  have e2 : L2.atI (pick.map D.int) 2 = some (.int x2) := e2
  have e6 : L2.atI (pick.map D.int) 6 = some (.int x6) := e6
  simp -implicitDefEqProofs only [wSs, wS, wE, wA, wP, wI, wIfs, tgNm, tgTup, tgNil, tgCons, getS, setS, optW_some, conD, negD, wip0, wipC, List.set_cons_zero, List.set_cons_succ, cmpLt, cmpLe, cmpGt, cmpGe, cmpEq, cmpNe, cmpIs, cmpIsN, cmpIn, cmpNotIn, binAdd, binSub, lenTup, lenLst, biMax, biMin, biInt, biIntB, tupTup, tupLst, lstTup, lstLst, ixT, ixL, slTup, slLst, atI0, atI1, atI2, atI3, atI4, atI5, isiTup, isiLst, seqTup, seqLst, lstOfLst, gOfTup, gOfLst, lstOfS, seqOfS, lenS, tupS, lstS, ixS, Sto.set_same, Sto.set_set, eqInt, eqStr, eqNil, isNon, Option.map_some, List.length_cons, List.length_nil, List.length_map, e0, e1, e2, e6, nnD]
  rw [binPow (by decide) (by decide) (by decide)]
  try simp -implicitDefEqProofs only [wSs, wS, wE, wA, wP, wI, wIfs, tgNm, tgTup, tgNil, tgCons, getS, setS, optW_some, conD, negD, wip0, wipC, List.set_cons_zero, List.set_cons_succ, cmpLt, cmpLe, cmpGt, cmpGe, cmpEq, cmpNe, cmpIs, cmpIsN, cmpIn, cmpNotIn, binAdd, binSub, lenTup, lenLst, biMax, biMin, biInt, biIntB, tupTup, tupLst, lstTup, lstLst, ixT, ixL, slTup, slLst, atI0, atI1, atI2, atI3, atI4, atI5, isiTup, isiLst, seqTup, seqLst, lstOfLst, gOfTup, gOfLst, lstOfS, seqOfS, lenS, tupS, lstS, ixS, Sto.set_same, Sto.set_set, eqInt, eqStr, eqNil, isNon, Option.map_some, List.length_cons, List.length_nil, List.length_map]
  rw [binMul (mul_r (by decide) (by decide))]
  try simp -implicitDefEqProofs only [wSs, wS, wE, wA, wP, wI, wIfs, tgNm, tgTup, tgNil, tgCons, getS, setS, optW_some, conD, negD, wip0, wipC, List.set_cons_zero, List.set_cons_succ, cmpLt, cmpLe, cmpGt, cmpGe, cmpEq, cmpNe, cmpIs, cmpIsN, cmpIn, cmpNotIn, binAdd, binSub, lenTup, lenLst, biMax, biMin, biInt, biIntB, tupTup, tupLst, lstTup, lstLst, ixT, ixL, slTup, slLst, atI0, atI1, atI2, atI3, atI4, atI5, isiTup, isiLst, seqTup, seqLst, lstOfLst, gOfTup, gOfLst, lstOfS, seqOfS, lenS, tupS, lstS, ixS, Sto.set_same, Sto.set_set, eqInt, eqStr, eqNil, isNon, Option.map_some, List.length_cons, List.length_nil, List.length_map]
  rw [binMod (by decide)]
  try simp -implicitDefEqProofs only [wSs, wS, wE, wA, wP, wI, wIfs, tgNm, tgTup, tgNil, tgCons, getS, setS, optW_some, conD, negD, wip0, wipC, List.set_cons_zero, List.set_cons_succ, cmpLt, cmpLe, cmpGt, cmpGe, cmpEq, cmpNe, cmpIs, cmpIsN, cmpIn, cmpNotIn, binAdd, binSub, lenTup, lenLst, biMax, biMin, biInt, biIntB, tupTup, tupLst, lstTup, lstLst, ixT, ixL, slTup, slLst, atI0, atI1, atI2, atI3, atI4, atI5, isiTup, isiLst, seqTup, seqLst, lstOfLst, gOfTup, gOfLst, lstOfS, seqOfS, lenS, tupS, lstS, ixS, Sto.set_same, Sto.set_set, eqInt, eqStr, eqNil, isNon, Option.map_some, List.length_cons, List.length_nil, List.length_map]
  have hcut : ∃ p : Int, 0 ≤ p ∧ L2.atI [D.int 0, D.int 1, D.int 2, D.int 3, D.int 16, D.int 0, D.int (x1 * 2520 ^ Int.toNat 3 + x2)] (x0 % 7) = some (.int p) := by
    have k1 := Int.emod_nonneg x0 (show (7 : Int) ≠ 0 by decide)
    have k2 := Int.emod_lt_of_pos x0 (show (0 : Int) < 7 by decide)
    have k3 : x0 % 7 = 0 ∨ x0 % 7 = 1 ∨ x0 % 7 = 2 ∨ x0 % 7 = 3 ∨ x0 % 7 = 4 ∨ x0 % 7 = 5 ∨ x0 % 7 = 6 := by omega
    have k4 : 0 ≤ x1 * 2520 ^ Int.toNat 3 + x2 := Int.add_nonneg (Int.mul_nonneg z1 (by decide)) z2
    rcases k3 with k3 | k3 | k3 | k3 | k3 | k3 | k3 <;> rw [k3]
    · exact ⟨0, by decide, rfl⟩
    · exact ⟨1, by decide, rfl⟩
    · exact ⟨2, by decide, rfl⟩
    · exact ⟨3, by decide, rfl⟩
    · exact ⟨16, by decide, rfl⟩
    · exact ⟨0, by decide, rfl⟩
    · exact ⟨_, k4, rfl⟩
  obtain ⟨p, hp, ep⟩ := hcut
  rw [ep]
  try simp -implicitDefEqProofs only [wSs, wS, wE, wA, wP, wI, wIfs, tgNm, tgTup, tgNil, tgCons, getS, setS, optW_some, conD, negD, wip0, wipC, List.set_cons_zero, List.set_cons_succ, cmpLt, cmpLe, cmpGt, cmpGe, cmpEq, cmpNe, cmpIs, cmpIsN, cmpIn, cmpNotIn, binAdd, binSub, lenTup, lenLst, biMax, biMin, biInt, biIntB, tupTup, tupLst, lstTup, lstLst, ixT, ixL, slTup, slLst, atI0, atI1, atI2, atI3, atI4, atI5, isiTup, isiLst, seqTup, seqLst, lstOfLst, gOfTup, gOfLst, lstOfS, seqOfS, lenS, tupS, lstS, ixS, Sto.set_same, Sto.set_set, eqInt, eqStr, eqNil, isNon, Option.map_some, List.length_cons, List.length_nil, List.length_map]
  intro a ha b hb
  have hab : a ≠ b := by rintro rfl; rw [Sto.set_same] at hb; cases hb
  have hSb : S b = none := by rwa [Sto.set_ne (Ne.symm hab)] at hb
  rw [cut_midI (by decide) (by decide), ← List.map_take, ← List.map_drop]
  generalize hcells : (xs.take (18 : Int).toNat).drop (2 : Int).toNat = cells
  have hcl : cells.length ≤ 16 := by
    rw [← hcells, List.length_drop, List.length_take]
    have : (18 : Int).toNat = 18 := rfl
    have : (2 : Int).toNat = 2 := rfl
    omega
  refine forW_inv (fun ds' st S' => ∃ (ws : List Int) (r : List Com) (cs : List (List Deed)) (tr : List Tr) (n : Int) (pos : Posn) (y9 y10 y11 y12 y13 y14 y15 y16 y17 : Option D), ds' = ws.map D.int ∧ ws.length + cs.length ≤ 16 ∧ Inv u p r cs tr n pos ∧
      S' = (S.set a (.lst (r.map comD))).set b (.lst (cs.map cD)) ∧
      st = [some (.lst (xs.map D.int)), some u.d, some (.lst (pick.map D.int)), some (.int p), some (posD pos), some (.loc a), some (.loc b), some (.lst (tr.map trD)), some (.int n), y9, y10, y11, y12, y13, y14, y15, y16, y17, none, none, none, none, none, none]) ?_ ?_ ?_
  · rintro d' ds' st S' nxt ⟨ws, r, cs, tr, n, pos, y9, y10, y11, y12, y13, y14, y15, y16, y17, hds, hlen, I, rfl, rfl⟩ hn
    cases ws with
    | nil => cases hds
    | cons w ws =>
      rw [List.map_cons, List.cons.injEq] at hds
      obtain ⟨rfl, rfl⟩ := hds
      refine ⟨trivial, ?_⟩
      simp -implicitDefEqProofs only [List.length_cons] at hlen
      have hlr := I.len
      simp -implicitDefEqProofs only [wSs, wS, wE, wA, wP, wI, wIfs, tgNm, tgTup, tgNil, tgCons, getS, setS, optW_some, conD, negD, wip0, wipC, List.set_cons_zero, List.set_cons_succ, cmpLt, cmpLe, cmpGt, cmpGe, cmpEq, cmpNe, cmpIs, cmpIsN, cmpIn, cmpNotIn, binAdd, binSub, lenTup, lenLst, biMax, biMin, biInt, biIntB, tupTup, tupLst, lstTup, lstLst, ixT, ixL, slTup, slLst, atI0, atI1, atI2, atI3, atI4, atI5, isiTup, isiLst, seqTup, seqLst, lstOfLst, gOfTup, gOfLst, lstOfS, seqOfS, lenS, tupS, lstS, ixS, Sto.set_same, Sto.set_set, eqInt, eqStr, eqNil, isNon, Option.map_some, List.length_cons, List.length_nil, List.length_map, posD]
      refine c_law_draws (n := 10) (by decide) fun draws hdl hdn => ?_
      simp -implicitDefEqProofs only [lstOfLoc (Sto.get2 hab), wSs, wS, wE, wA, wP, wI, wIfs, tgNm, tgTup, tgNil, tgCons, getS, setS, optW_some, conD, negD, wip0, wipC, List.set_cons_zero, List.set_cons_succ, cmpLt, cmpLe, cmpGt, cmpGe, cmpEq, cmpNe, cmpIs, cmpIsN, cmpIn, cmpNotIn, binAdd, binSub, lenTup, lenLst, biMax, biMin, biInt, biIntB, tupTup, tupLst, lstTup, lstLst, ixT, ixL, slTup, slLst, atI0, atI1, atI2, atI3, atI4, atI5, isiTup, isiLst, seqTup, seqLst, lstOfLst, gOfTup, gOfLst, lstOfS, seqOfS, lenS, tupS, lstS, ixS, Sto.set_same, Sto.set_set, eqInt, eqStr, eqNil, isNon, Option.map_some, List.length_cons, List.length_nil, List.length_map]
      refine c_law_comers hu hdl hdn fun c hc => ?_
      refine meApp (Sto.get2 hab) (by simp; omega) ?_
      rw [Sto.set2 hab]
      simp -implicitDefEqProofs only [ixLoc (Sto.get2 hab), at_last, wSs, wS, wE, wA, wP, wI, wIfs, tgNm, tgTup, tgNil, tgCons, getS, setS, optW_some, conD, negD, wip0, wipC, List.set_cons_zero, List.set_cons_succ, cmpLt, cmpLe, cmpGt, cmpGe, cmpEq, cmpNe, cmpIs, cmpIsN, cmpIn, cmpNotIn, binAdd, binSub, lenTup, lenLst, biMax, biMin, biInt, biIntB, tupTup, tupLst, lstTup, lstLst, ixT, ixL, slTup, slLst, atI0, atI1, atI2, atI3, atI4, atI5, isiTup, isiLst, seqTup, seqLst, lstOfLst, gOfTup, gOfLst, lstOfS, seqOfS, lenS, tupS, lstS, ixS, Sto.set_same, Sto.set_set, eqInt, eqStr, eqNil, isNon, Option.map_some, List.length_cons, List.length_nil, List.length_map]
      refine c_law_arrive (by have := I.ln; omega) (by have := hc.len; have := hu.cg2; omega) ?_
      have hu' : u.d = .tup [iv u.seats, iv u.sizes, .tup [.int u.rg, .int u.rs], .tup [.int u.cg, .int u.cs]] := rfl
      simp -implicitDefEqProofs only [wSs, wS, wE, wA, wP, wI, wIfs, tgNm, tgTup, tgNil, tgCons, getS, setS, optW_some, conD, negD, wip0, wipC, List.set_cons_zero, List.set_cons_succ, cmpLt, cmpLe, cmpGt, cmpGe, cmpEq, cmpNe, cmpIs, cmpIsN, cmpIn, cmpNotIn, binAdd, binSub, lenTup, lenLst, biMax, biMin, biInt, biIntB, tupTup, tupLst, lstTup, lstLst, ixT, ixL, slTup, slLst, atI0, atI1, atI2, atI3, atI4, atI5, isiTup, isiLst, seqTup, seqLst, lstOfLst, gOfTup, gOfLst, lstOfS, seqOfS, lenS, tupS, lstS, ixS, Sto.set_same, Sto.set_set, eqInt, eqStr, eqNil, isNon, Option.map_some, List.length_cons, List.length_nil, List.length_map, hu', iv]
      rw [binMod (by have := hu.n1; omega)]
      try simp -implicitDefEqProofs only [wSs, wS, wE, wA, wP, wI, wIfs, tgNm, tgTup, tgNil, tgCons, getS, setS, optW_some, conD, negD, wip0, wipC, List.set_cons_zero, List.set_cons_succ, cmpLt, cmpLe, cmpGt, cmpGe, cmpEq, cmpNe, cmpIs, cmpIsN, cmpIn, cmpNotIn, binAdd, binSub, lenTup, lenLst, biMax, biMin, biInt, biIntB, tupTup, tupLst, lstTup, lstLst, ixT, ixL, slTup, slLst, atI0, atI1, atI2, atI3, atI4, atI5, isiTup, isiLst, seqTup, seqLst, lstOfLst, gOfTup, gOfLst, lstOfS, seqOfS, lenS, tupS, lstS, ixS, Sto.set_same, Sto.set_set, eqInt, eqStr, eqNil, isNon, Option.map_some, List.length_cons, List.length_nil, List.length_map]
      obtain ⟨q1, q2, q3⟩ := seat_at hu (k := cs.length)
      rw [show ((cs.length : Int) % (u.seats.length : Int)) = ((cs.length % u.seats.length : Nat) : Int) from rfl, q1]
      simp -implicitDefEqProofs only [wSs, wS, wE, wA, wP, wI, wIfs, tgNm, tgTup, tgNil, tgCons, getS, setS, optW_some, conD, negD, wip0, wipC, List.set_cons_zero, List.set_cons_succ, cmpLt, cmpLe, cmpGt, cmpGe, cmpEq, cmpNe, cmpIs, cmpIsN, cmpIn, cmpNotIn, binAdd, binSub, lenTup, lenLst, biMax, biMin, biInt, biIntB, tupTup, tupLst, lstTup, lstLst, ixT, ixL, slTup, slLst, atI0, atI1, atI2, atI3, atI4, atI5, isiTup, isiLst, seqTup, seqLst, lstOfLst, gOfTup, gOfLst, lstOfS, seqOfS, lenS, tupS, lstS, ixS, Sto.set_same, Sto.set_set, eqInt, eqStr, eqNil, isNon, Option.map_some, List.length_cons, List.length_nil, List.length_map, nnD]
      rw [show (4 : Int) = ((4 : Nat) : Int) from rfl, cut_from, ← List.map_drop]
      refine c_law_chair (by rw [List.length_drop]; omega) (fun x hx => hdn x (List.mem_of_mem_drop hx)) ?_ ?_ I.p0 q3 ?_
      · rw [List.length_take]; have := I.ln; have := hu.rg2; omega
      · have := I.s0; have := hc.s0; have := hu.rs1; omega
      intro chair y steps hch
      have J := I.next hu hc hch
      try simp -implicitDefEqProofs only [wSs, wS, wE, wA, wP, wI, wIfs, tgNm, tgTup, tgNil, tgCons, getS, setS, optW_some, conD, negD, wip0, wipC, List.set_cons_zero, List.set_cons_succ, cmpLt, cmpLe, cmpGt, cmpGe, cmpEq, cmpNe, cmpIs, cmpIsN, cmpIn, cmpNotIn, binAdd, binSub, lenTup, lenLst, biMax, biMin, biInt, biIntB, tupTup, tupLst, lstTup, lstLst, ixT, ixL, slTup, slLst, atI0, atI1, atI2, atI3, atI4, atI5, isiTup, isiLst, seqTup, seqLst, lstOfLst, gOfTup, gOfLst, lstOfS, seqOfS, lenS, tupS, lstS, ixS, Sto.set_same, Sto.set_set, eqInt, eqStr, eqNil, isNon, Option.map_some, List.length_cons, List.length_nil, List.length_map]
      refine lcW_map (f := ahead1 cs.length) ?_ trivial ?_
      · intro d hd R' hR
        obtain ⟨t, ht, rfl⟩ := List.mem_map.mp hd
        simp -implicitDefEqProofs only [trailD, wSs, wS, wE, wA, wP, wI, wIfs, tgNm, tgTup, tgNil, tgCons, getS, setS, optW_some, conD, negD, wip0, wipC, List.set_cons_zero, List.set_cons_succ, cmpLt, cmpLe, cmpGt, cmpGe, cmpEq, cmpNe, cmpIs, cmpIsN, cmpIn, cmpNotIn, binAdd, binSub, lenTup, lenLst, biMax, biMin, biInt, biIntB, tupTup, tupLst, lstTup, lstLst, ixT, ixL, slTup, slLst, atI0, atI1, atI2, atI3, atI4, atI5, isiTup, isiLst, seqTup, seqLst, lstOfLst, gOfTup, gOfLst, lstOfS, seqOfS, lenS, tupS, lstS, ixS, Sto.set_same, Sto.set_set, eqInt, eqStr, eqNil, isNon, Option.map_some, List.length_cons, List.length_nil, List.length_map]
        rw [binTup (by simp)]
        exact hR
      rw [trs_map, List.nil_append, binLst (by have := I.tl; have := hch.tl; simp; omega), ← List.map_append]
      try simp -implicitDefEqProofs only [wSs, wS, wE, wA, wP, wI, wIfs, tgNm, tgTup, tgNil, tgCons, getS, setS, optW_some, conD, negD, wip0, wipC, List.set_cons_zero, List.set_cons_succ, cmpLt, cmpLe, cmpGt, cmpGe, cmpEq, cmpNe, cmpIs, cmpIsN, cmpIn, cmpNotIn, binAdd, binSub, lenTup, lenLst, biMax, biMin, biInt, biIntB, tupTup, tupLst, lstTup, lstLst, ixT, ixL, slTup, slLst, atI0, atI1, atI2, atI3, atI4, atI5, isiTup, isiLst, seqTup, seqLst, lstOfLst, gOfTup, gOfLst, lstOfS, seqOfS, lenS, tupS, lstS, ixS, Sto.set_same, Sto.set_set, eqInt, eqStr, eqNil, isNon, Option.map_some, List.length_cons, List.length_nil, List.length_map]
      rw [meAppS (by simp; omega)]
      try simp -implicitDefEqProofs only [wSs, wS, wE, wA, wP, wI, wIfs, tgNm, tgTup, tgNil, tgCons, getS, setS, optW_some, conD, negD, wip0, wipC, List.set_cons_zero, List.set_cons_succ, cmpLt, cmpLe, cmpGt, cmpGe, cmpEq, cmpNe, cmpIs, cmpIsN, cmpIn, cmpNotIn, binAdd, binSub, lenTup, lenLst, biMax, biMin, biInt, biIntB, tupTup, tupLst, lstTup, lstLst, ixT, ixL, slTup, slLst, atI0, atI1, atI2, atI3, atI4, atI5, isiTup, isiLst, seqTup, seqLst, lstOfLst, gOfTup, gOfLst, lstOfS, seqOfS, lenS, tupS, lstS, ixS, Sto.set_same, Sto.set_set, eqInt, eqStr, eqNil, isNon, Option.map_some, List.length_cons, List.length_nil, List.length_map]
      refine c_law_lost ?_
      try simp -implicitDefEqProofs only [wSs, wS, wE, wA, wP, wI, wIfs, tgNm, tgTup, tgNil, tgCons, getS, setS, optW_some, conD, negD, wip0, wipC, List.set_cons_zero, List.set_cons_succ, cmpLt, cmpLe, cmpGt, cmpGe, cmpEq, cmpNe, cmpIs, cmpIsN, cmpIn, cmpNotIn, binAdd, binSub, lenTup, lenLst, biMax, biMin, biInt, biIntB, tupTup, tupLst, lstTup, lstLst, ixT, ixL, slTup, slLst, atI0, atI1, atI2, atI3, atI4, atI5, isiTup, isiLst, seqTup, seqLst, lstOfLst, gOfTup, gOfLst, lstOfS, seqOfS, lenS, tupS, lstS, ixS, Sto.set_same, Sto.set_set, eqInt, eqStr, eqNil, isNon, Option.map_some, List.length_cons, List.length_nil, List.length_map]
      exact hn _ _ ⟨ws, r ++ [c], cs ++ [chair], _, _, _, _, _, _, _, _, _, _, _, _, rfl, by simp; omega, J, by simp, rfl⟩
  · rintro st S' ⟨ws, r, cs, tr, n, pos, y9, y10, y11, y12, y13, y14, y15, y16, y17, hds, hlen, I, rfl, rfl⟩
    cases ws with
    | cons => cases hds
    | nil =>
      refine ⟨trivial, ?_⟩
      have hlr := I.len
      have hr : r.length ≤ 16 := by simp at hlen; omega
      have k1 := Int.emod_nonneg x6 (show (4 : Int) ≠ 0 by decide)
      have k2 := Int.emod_lt_of_pos x6 (show (0 : Int) < 4 by decide)
      have hcs : ok0 22 (.lst (cs.map cD)) = true := cs_ok I.wd (n := 19)
      have hl2 : (cs.map cD).length = r.length := by simpa using hlr
      have hgood : deedsLose u r (.lst (cs.map cD)) p = some n := by
        unfold deedsLose
        simp only
        rw [if_pos hl2, I.run]; rfl
      simp -implicitDefEqProofs only [posD, e6, wSs, wS, wE, wA, wP, wI, wIfs, tgNm, tgTup, tgNil, tgCons, getS, setS, optW_some, conD, negD, wip0, wipC, List.set_cons_zero, List.set_cons_succ, cmpLt, cmpLe, cmpGt, cmpGe, cmpEq, cmpNe, cmpIs, cmpIsN, cmpIn, cmpNotIn, binAdd, binSub, lenTup, lenLst, biMax, biMin, biInt, biIntB, tupTup, tupLst, lstTup, lstLst, ixT, ixL, slTup, slLst, atI0, atI1, atI2, atI3, atI4, atI5, isiTup, isiLst, seqTup, seqLst, lstOfLst, gOfTup, gOfLst, lstOfS, seqOfS, lenS, tupS, lstS, ixS, Sto.set_same, Sto.set_set, eqInt, eqStr, eqNil, isNon, Option.map_some, List.length_cons, List.length_nil, List.length_map]
      rw [binMod (by decide)]
      try simp -implicitDefEqProofs only [wSs, wS, wE, wA, wP, wI, wIfs, tgNm, tgTup, tgNil, tgCons, getS, setS, optW_some, conD, negD, wip0, wipC, List.set_cons_zero, List.set_cons_succ, cmpLt, cmpLe, cmpGt, cmpGe, cmpEq, cmpNe, cmpIs, cmpIsN, cmpIn, cmpNotIn, binAdd, binSub, lenTup, lenLst, biMax, biMin, biInt, biIntB, tupTup, tupLst, lstTup, lstLst, ixT, ixL, slTup, slLst, atI0, atI1, atI2, atI3, atI4, atI5, isiTup, isiLst, seqTup, seqLst, lstOfLst, gOfTup, gOfLst, lstOfS, seqOfS, lenS, tupS, lstS, ixS, Sto.set_same, Sto.set_set, eqInt, eqStr, eqNil, isNon, Option.map_some, List.length_cons, List.length_nil, List.length_map]
      by_cases q1 : x6 % 4 = 1
      · by_cases q2 : 0 < p - pos.2.2
        · simp -implicitDefEqProofs only [q1, q2, if_true, if_false, Bool.false_eq_true, Bool.not_true, Bool.not_false, reduceIte, decide_true, decide_false, Bool.and_self, wSs, wS, wE, wA, wP, wI, wIfs, tgNm, tgTup, tgNil, tgCons, getS, setS, optW_some, conD, negD, wip0, wipC, List.set_cons_zero, List.set_cons_succ, cmpLt, cmpLe, cmpGt, cmpGe, cmpEq, cmpNe, cmpIs, cmpIsN, cmpIn, cmpNotIn, binAdd, binSub, lenTup, lenLst, biMax, biMin, biInt, biIntB, tupTup, tupLst, lstTup, lstLst, ixT, ixL, slTup, slLst, atI0, atI1, atI2, atI3, atI4, atI5, isiTup, isiLst, seqTup, seqLst, lstOfLst, gOfTup, gOfLst, lstOfS, seqOfS, lenS, tupS, lstS, ixS, Sto.set_same, Sto.set_set, eqInt, eqStr, eqNil, isNon, Option.map_some, List.length_cons, List.length_nil, List.length_map]
          refine tail hu I.com hr (by omega) hcs (Sto.get2 hab) ?_
          rw [few_parts (n := n) (q := 0) hl2 I.run q2]; rfl
        · simp -implicitDefEqProofs only [q1, q2, show decide ((1 : Int) < 1) = false from rfl, if_true, if_false, Bool.false_eq_true, Bool.not_true, Bool.not_false, reduceIte, decide_true, decide_false, Bool.and_self, wSs, wS, wE, wA, wP, wI, wIfs, tgNm, tgTup, tgNil, tgCons, getS, setS, optW_some, conD, negD, wip0, wipC, List.set_cons_zero, List.set_cons_succ, cmpLt, cmpLe, cmpGt, cmpGe, cmpEq, cmpNe, cmpIs, cmpIsN, cmpIn, cmpNotIn, binAdd, binSub, lenTup, lenLst, biMax, biMin, biInt, biIntB, tupTup, tupLst, lstTup, lstLst, ixT, ixL, slTup, slLst, atI0, atI1, atI2, atI3, atI4, atI5, isiTup, isiLst, seqTup, seqLst, lstOfLst, gOfTup, gOfLst, lstOfS, seqOfS, lenS, tupS, lstS, ixS, Sto.set_same, Sto.set_set, eqInt, eqStr, eqNil, isNon, Option.map_some, List.length_cons, List.length_nil, List.length_map]
          exact tail hu I.com hr hp hcs (Sto.get2 hab) (by rw [hgood]; rfl)
      · by_cases q3 : 1 < x6 % 4
        · simp -implicitDefEqProofs only [q1, q3, if_true, if_false, Bool.false_eq_true, Bool.not_true, Bool.not_false, reduceIte, decide_true, decide_false, Bool.and_self, wSs, wS, wE, wA, wP, wI, wIfs, tgNm, tgTup, tgNil, tgCons, getS, setS, optW_some, conD, negD, wip0, wipC, List.set_cons_zero, List.set_cons_succ, cmpLt, cmpLe, cmpGt, cmpGe, cmpEq, cmpNe, cmpIs, cmpIsN, cmpIn, cmpNotIn, binAdd, binSub, lenTup, lenLst, biMax, biMin, biInt, biIntB, tupTup, tupLst, lstTup, lstLst, ixT, ixL, slTup, slLst, atI0, atI1, atI2, atI3, atI4, atI5, isiTup, isiLst, seqTup, seqLst, lstOfLst, gOfTup, gOfLst, lstOfS, seqOfS, lenS, tupS, lstS, ixS, Sto.set_same, Sto.set_set, eqInt, eqStr, eqNil, isNon, Option.map_some, List.length_cons, List.length_nil, List.length_map]
          refine c_law_spoilt hpl hpn (by simp at hlen; omega) I.trk I.wd fun d hd => ?_
          try simp -implicitDefEqProofs only [wSs, wS, wE, wA, wP, wI, wIfs, tgNm, tgTup, tgNil, tgCons, getS, setS, optW_some, conD, negD, wip0, wipC, List.set_cons_zero, List.set_cons_succ, cmpLt, cmpLe, cmpGt, cmpGe, cmpEq, cmpNe, cmpIs, cmpIsN, cmpIn, cmpNotIn, binAdd, binSub, lenTup, lenLst, biMax, biMin, biInt, biIntB, tupTup, tupLst, lstTup, lstLst, ixT, ixL, slTup, slLst, atI0, atI1, atI2, atI3, atI4, atI5, isiTup, isiLst, seqTup, seqLst, lstOfLst, gOfTup, gOfLst, lstOfS, seqOfS, lenS, tupS, lstS, ixS, Sto.set_same, Sto.set_set, eqInt, eqStr, eqNil, isNon, Option.map_some, List.length_cons, List.length_nil, List.length_map]
          refine tail hu I.com hr hp (spoilt_ok I.wd (fun t ht => (I.trk t ht).2.2.2) hd) ?_ ?_
          · rw [Sto.del_ne hab]; exact Sto.get2 hab
          · rw [spoilt_none hl2 I.prog hd]; rfl
        · simp -implicitDefEqProofs only [q1, q3, if_true, if_false, Bool.false_eq_true, Bool.not_true, Bool.not_false, reduceIte, decide_true, decide_false, Bool.and_self, wSs, wS, wE, wA, wP, wI, wIfs, tgNm, tgTup, tgNil, tgCons, getS, setS, optW_some, conD, negD, wip0, wipC, List.set_cons_zero, List.set_cons_succ, cmpLt, cmpLe, cmpGt, cmpGe, cmpEq, cmpNe, cmpIs, cmpIsN, cmpIn, cmpNotIn, binAdd, binSub, lenTup, lenLst, biMax, biMin, biInt, biIntB, tupTup, tupLst, lstTup, lstLst, ixT, ixL, slTup, slLst, atI0, atI1, atI2, atI3, atI4, atI5, isiTup, isiLst, seqTup, seqLst, lstOfLst, gOfTup, gOfLst, lstOfS, seqOfS, lenS, tupS, lstS, ixS, Sto.set_same, Sto.set_set, eqInt, eqStr, eqNil, isNon, Option.map_some, List.length_cons, List.length_nil, List.length_map]
          exact tail hu I.com hr hp hcs (Sto.get2 hab) (by rw [hgood]; rfl)
  · exact ⟨cells, [], [], [], 0, ([], 0, p), _, _, _, _, _, _, _, _, _, rfl, by simpa using hcl, ⟨rfl, by simp, by simp, by simp, by simp, rfl, by simp, hu.rs1, by simp, hp, by simp, by simp⟩, rfl, rfl⟩
end FC
/-! the text against the bodies: printed by gen.py -/
namespace FC
open PySem PySem.Spec PyProof.Rows L2 DL
def topS (i : Nat) : Stmt := PySem.Challenge.pw_fillchairs_k61_deeds_judged.main.body.getD i (.Pass ⟨0, 0, 0, 0⟩)
def bltN : List Str := ["all", "bool", "enumerate", "int", "isinstance", "len", "list", "max", "min", "range", "str", "tuple", "zip"]
def csN : List (Str × Nat) := [("MOST_BEATS", 3), ("MOST_AHEAD", 0), ("FILLING", 1)]
def F_is_integer : List (Str × Nat) := []
def T_is_integer : Tab := ⟨bltN, csN, F_is_integer, [], []⟩
def N_is_integer : List Str := ["thing"]
def P_is_integer : List Str := ["thing"]
theorem sc_is_integer : FnScope N_is_integer P_is_integer (defScope (topS 7)) := ⟨rfl, rfl, rfl, by decide +kernel, rfl, by decide +kernel, by decide +kernel⟩
theorem ck_is_integer : cSs T_is_integer Γ N_is_integer 0 (defScope (topS 7)) b_is_integer (defBody (topS 7)) = true := by decide +kernel
def F_is_number : List (Str × Nat) := ("is_integer", 0) :: F_is_integer
def T_is_number : Tab := ⟨bltN, csN, F_is_number, [], []⟩
def N_is_number : List Str := ["thing", "low", "high"]
def P_is_number : List Str := ["thing", "low", "high"]
theorem sc_is_number : FnScope N_is_number P_is_number (defScope (topS 8)) := ⟨rfl, rfl, rfl, by decide +kernel, rfl, by decide +kernel, by decide +kernel⟩
theorem ck_is_number : cSs T_is_number Γ N_is_number 1 (defScope (topS 8)) b_is_number (defBody (topS 8)) = true := by decide +kernel
def F_are_numbers : List (Str × Nat) := ("is_number", 1) :: F_is_number
def T_are_numbers : Tab := ⟨bltN, csN, F_are_numbers, [], []⟩
def N_are_numbers : List Str := ["thing", "least", "most", "low", "high", "number"]
def P_are_numbers : List Str := ["thing", "least", "most", "low", "high"]
theorem sc_are_numbers : FnScope N_are_numbers P_are_numbers (defScope (topS 9)) := ⟨rfl, rfl, rfl, by decide +kernel, rfl, by decide +kernel, by decide +kernel⟩
theorem ck_are_numbers : cSs T_are_numbers Γ N_are_numbers 2 (defScope (topS 9)) b_are_numbers (defBody (topS 9)) = true := by decide +kernel
def F_are_most : List (Str × Nat) := ("are_numbers", 2) :: F_are_numbers
def T_are_most : Tab := ⟨bltN, csN, F_are_most, [], []⟩
def N_are_most : List Str := ["thing", "groups_low", "groups_high", "singles_high"]
def P_are_most : List Str := ["thing", "groups_low", "groups_high", "singles_high"]
theorem sc_are_most : FnScope N_are_most P_are_most (defScope (topS 10)) := ⟨rfl, rfl, rfl, by decide +kernel, rfl, by decide +kernel, by decide +kernel⟩
theorem ck_are_most : cSs T_are_most Γ N_are_most 3 (defScope (topS 10)) b_are_most (defBody (topS 10)) = true := by decide +kernel
def F_is_setup : List (Str × Nat) := ("are_most", 3) :: F_are_most
def T_is_setup : Tab := ⟨bltN, csN, F_is_setup, [], []⟩
def N_is_setup : List Str := ["thing", "seats", "sizes", "rooms", "comers", "one", "other"]
def P_is_setup : List Str := ["thing"]
theorem sc_is_setup : FnScope N_is_setup P_is_setup (defScope (topS 11)) := ⟨rfl, rfl, rfl, by decide +kernel, rfl, by decide +kernel, by decide +kernel⟩
theorem ck_is_setup : cSs T_is_setup Γ N_is_setup 4 (defScope (topS 11)) b_is_setup (defBody (topS 11)) = true := by decide +kernel
def F_check_setup : List (Str × Nat) := ("is_setup", 4) :: F_is_setup
def T_check_setup : Tab := ⟨bltN, csN, F_check_setup, [], []⟩
def N_check_setup : List Str := ["setup"]
def P_check_setup : List Str := ["setup"]
theorem sc_check_setup : FnScope N_check_setup P_check_setup (defScope (topS 12)) := ⟨rfl, rfl, rfl, by decide +kernel, rfl, by decide +kernel, by decide +kernel⟩
theorem ck_check_setup : cSs T_check_setup Γ N_check_setup 5 (defScope (topS 12)) b_check_setup (defBody (topS 12)) = true := by decide +kernel
def F_is_size : List (Str × Nat) := ("check_setup", 8) :: F_check_setup
def T_is_size : Tab := ⟨bltN, csN, F_is_size, [], []⟩
def N_is_size : List Str := ["setup", "thing"]
def P_is_size : List Str := ["setup", "thing"]
theorem sc_is_size : FnScope N_is_size P_is_size (defScope (topS 13)) := ⟨rfl, rfl, rfl, by decide +kernel, rfl, by decide +kernel, by decide +kernel⟩
theorem ck_is_size : cSs T_is_size Γ N_is_size 2 (defScope (topS 13)) b_is_size (defBody (topS 13)) = true := by decide +kernel
def F_is_comers : List (Str × Nat) := ("is_size", 5) :: F_is_size
def T_is_comers : Tab := ⟨bltN, csN, F_is_comers, [], []⟩
def N_is_comers : List Str := ["setup", "thing", "groups", "singles", "size"]
def P_is_comers : List Str := ["setup", "thing"]
theorem sc_is_comers : FnScope N_is_comers P_is_comers (defScope (topS 14)) := ⟨rfl, rfl, rfl, by decide +kernel, rfl, by decide +kernel, by decide +kernel⟩
theorem ck_is_comers : cSs T_is_comers Γ N_is_comers 3 (defScope (topS 14)) b_is_comers (defBody (topS 14)) = true := by decide +kernel
def F_row_fault : List (Str × Nat) := ("is_comers", 6) :: F_is_comers
def T_row_fault : Tab := ⟨bltN, csN, F_row_fault, [], []⟩
def N_row_fault : List Str := ["setup", "row", "most", "place", "comers"]
def P_row_fault : List Str := ["setup", "row", "most"]
theorem sc_row_fault : FnScope N_row_fault P_row_fault (defScope (topS 15)) := ⟨rfl, rfl, rfl, by decide +kernel, rfl, by decide +kernel, by decide +kernel⟩
theorem ck_row_fault : cSs T_row_fault Γ N_row_fault 4 (defScope (topS 15)) b_row_fault (defBody (topS 15)) = true := by decide +kernel
def F_check_row : List (Str × Nat) := ("row_fault", 7) :: F_row_fault
def T_check_row : Tab := ⟨bltN, csN, F_check_row, [], []⟩
def N_check_row : List Str := ["setup", "row", "most", "place"]
def P_check_row : List Str := ["setup", "row", "most"]
theorem sc_check_row : FnScope N_check_row P_check_row (defScope (topS 16)) := ⟨rfl, rfl, rfl, by decide +kernel, rfl, by decide +kernel, by decide +kernel⟩
theorem ck_check_row : cSs T_check_row Γ N_check_row 5 (defScope (topS 16)) b_check_row (defBody (topS 16)) = true := by decide +kernel
def F_can_be_done : List (Str × Nat) := ("check_row", 9) :: F_check_row
def T_can_be_done : Tab := ⟨bltN, csN, F_can_be_done, [], []⟩
def N_can_be_done : List Str := ["deed", "front", "left", "singles"]
def P_can_be_done : List Str := ["deed", "front", "left", "singles"]
theorem sc_can_be_done : FnScope N_can_be_done P_can_be_done (defScope (topS 18)) := ⟨rfl, rfl, rfl, by decide +kernel, rfl, by decide +kernel, by decide +kernel⟩
theorem ck_can_be_done : cSs T_can_be_done Γ N_can_be_done 0 (defScope (topS 18)) b_can_be_done (defBody (topS 18)) = true := by decide +kernel
def F_front_of : List (Str × Nat) := ("can_be_done", 11) :: F_can_be_done
def T_front_of : Tab := ⟨bltN, csN, F_front_of, [], []⟩
def N_front_of : List Str := ["line"]
def P_front_of : List Str := ["line"]
theorem sc_front_of : FnScope N_front_of P_front_of (defScope (topS 19)) := ⟨rfl, rfl, rfl, by decide +kernel, rfl, by decide +kernel, by decide +kernel⟩
theorem ck_front_of : cSs T_front_of Γ N_front_of 0 (defScope (topS 19)) b_front_of (defBody (topS 19)) = true := by decide +kernel
def F_seated : List (Str × Nat) := ("front_of", 12) :: F_front_of
def T_seated : Tab := ⟨bltN, csN, F_seated, [], []⟩
def N_seated : List Str := ["deed", "line", "singles", "left"]
def P_seated : List Str := ["deed", "line", "singles", "left"]
theorem sc_seated : FnScope N_seated P_seated (defScope (topS 20)) := ⟨rfl, rfl, rfl, by decide +kernel, rfl, by decide +kernel, by decide +kernel⟩
theorem ck_seated : cSs T_seated Γ N_seated 0 (defScope (topS 20)) b_seated (defBody (topS 20)) = true := by decide +kernel
def F_let_in : List (Str × Nat) := ("seated", 14) :: F_seated
def T_let_in : Tab := ⟨bltN, csN, F_let_in, [], []⟩
def N_let_in : List Str := ["setup", "line", "singles", "comers", "groups", "more", "here", "waiting"]
def P_let_in : List Str := ["setup", "line", "singles", "comers"]
theorem sc_let_in : FnScope N_let_in P_let_in (defScope (topS 21)) := ⟨rfl, rfl, rfl, by decide +kernel, rfl, by decide +kernel, by decide +kernel⟩
theorem ck_let_in : cSs T_let_in Γ N_let_in 0 (defScope (topS 21)) b_let_in (defBody (topS 21)) = true := by decide +kernel
def F_is_count : List (Str × Nat) := ("let_in", 16) :: F_let_in
def T_is_count : Tab := ⟨bltN, csN, F_is_count, [], []⟩
def N_is_count : List Str := ["thing"]
def P_is_count : List Str := ["thing"]
theorem sc_is_count : FnScope N_is_count P_is_count (defScope (topS 25)) := ⟨rfl, rfl, rfl, by decide +kernel, rfl, by decide +kernel, by decide +kernel⟩
theorem ck_is_count : cSs T_is_count Γ N_is_count 0 (defScope (topS 25)) b_is_count (defBody (topS 25)) = true := by decide +kernel
def F_check_ahead : List (Str × Nat) := ("is_count", 10) :: F_is_count
def T_check_ahead : Tab := ⟨bltN, csN, F_check_ahead, [], []⟩
def N_check_ahead : List Str := ["setup", "row"]
def P_check_ahead : List Str := ["setup", "row"]
theorem sc_check_ahead : FnScope N_check_ahead P_check_ahead (defScope (topS 26)) := ⟨rfl, rfl, rfl, by decide +kernel, rfl, by decide +kernel, by decide +kernel⟩
theorem ck_check_ahead : cSs T_check_ahead Γ N_check_ahead 6 (defScope (topS 26)) b_check_ahead (defBody (topS 26)) = true := by decide +kernel
def F_check_count : List (Str × Nat) := ("check_ahead", 18) :: F_check_ahead
def T_check_count : Tab := ⟨bltN, csN, F_check_count, [], []⟩
def N_check_count : List Str := ["thing"]
def P_check_count : List Str := ["thing"]
theorem sc_check_count : FnScope N_check_count P_check_count (defScope (topS 27)) := ⟨rfl, rfl, rfl, by decide +kernel, rfl, by decide +kernel, by decide +kernel⟩
theorem ck_check_count : cSs T_check_count Γ N_check_count 1 (defScope (topS 27)) b_check_count (defBody (topS 27)) = true := by decide +kernel
def F_may_be_done : List (Str × Nat) := ("check_count", 19) :: F_check_count
def T_may_be_done : Tab := ⟨bltN, csN, F_may_be_done, [], []⟩
def N_may_be_done : List Str := ["deed", "line", "left", "singles", "parts"]
def P_may_be_done : List Str := ["deed", "line", "left", "singles", "parts"]
theorem sc_may_be_done : FnScope N_may_be_done P_may_be_done (defScope (topS 28)) := ⟨rfl, rfl, rfl, by decide +kernel, rfl, by decide +kernel, by decide +kernel⟩
theorem ck_may_be_done : cSs T_may_be_done Γ N_may_be_done 1 (defScope (topS 28)) b_may_be_done (defBody (topS 28)) = true := by decide +kernel
def F_is_done : List (Str × Nat) := ("may_be_done", 13) :: F_may_be_done
def T_is_done : Tab := ⟨bltN, csN, F_is_done, [], []⟩
def N_is_done : List Str := ["thing", "deed"]
def P_is_done : List Str := ["thing", "deed"]
theorem sc_is_done : FnScope N_is_done P_is_done (defScope (topS 29)) := ⟨rfl, rfl, rfl, by decide +kernel, rfl, by decide +kernel, by decide +kernel⟩
theorem ck_is_done : cSs T_is_done Γ N_is_done 2 (defScope (topS 29)) b_is_done (defBody (topS 29)) = true := by decide +kernel
def F_after_deed : List (Str × Nat) := ("is_done", 15) :: F_is_done
def T_after_deed : Tab := ⟨bltN, csN, F_after_deed, [], []⟩
def N_after_deed : List Str := ["thing", "line", "singles", "left", "parts", "deed", "done", "rest", "fewer", "free"]
def P_after_deed : List Str := ["thing", "line", "singles", "left", "parts"]
theorem sc_after_deed : FnScope N_after_deed P_after_deed (defScope (topS 30)) := ⟨rfl, rfl, rfl, by decide +kernel, rfl, by decide +kernel, by decide +kernel⟩
theorem ck_after_deed : cSs T_after_deed Γ N_after_deed 3 (defScope (topS 30)) b_after_deed (defBody (topS 30)) = true := by decide +kernel
def F_after_deeds : List (Str × Nat) := ("after_deed", 17) :: F_after_deed
def T_after_deeds : Tab := ⟨bltN, csN, F_after_deeds, [], []⟩
def N_after_deeds : List Str := ["setup", "turn", "position", "comers", "deeds", "line", "singles", "found", "thing", "left", "parts"]
def P_after_deeds : List Str := ["setup", "turn", "position", "comers", "deeds"]
theorem sc_after_deeds : FnScope N_after_deeds P_after_deeds (defScope (topS 31)) := ⟨rfl, rfl, rfl, by decide +kernel, rfl, by decide +kernel, by decide +kernel⟩
theorem ck_after_deeds : cSs T_after_deeds Γ N_after_deeds 4 (defScope (topS 31)) b_after_deeds (defBody (topS 31)) = true := by decide +kernel
def F_deeds_lose : List (Str × Nat) := ("after_deeds", 20) :: F_after_deeds
def T_deeds_lose : Tab := ⟨bltN, csN, F_deeds_lose, [], []⟩
def N_deeds_lose : List Str := ["setup", "row", "deeds", "parts", "total", "position", "at", "comers", "step"]
def P_deeds_lose : List Str := ["setup", "row", "deeds", "parts"]
theorem sc_deeds_lose : FnScope N_deeds_lose P_deeds_lose (defScope (topS 32)) := ⟨rfl, rfl, rfl, by decide +kernel, rfl, by decide +kernel, by decide +kernel⟩
theorem ck_deeds_lose : cSs T_deeds_lose Γ N_deeds_lose 7 (defScope (topS 32)) b_deeds_lose (defBody (topS 32)) = true := by decide +kernel
def F_law_cell_at : List (Str × Nat) := F_deeds_lose
def T_law_cell_at : Tab := ⟨bltN, csN, F_law_cell_at, [("deeds_lose", 32, [2])], [("deeds_lose", 32, ["parts"])]⟩
def N_law_cell_at : List Str := ["script", "k"]
def P_law_cell_at : List Str := ["script", "k"]
theorem sc_law_cell_at : FnScope N_law_cell_at P_law_cell_at (defScope (topS 34)) := ⟨rfl, rfl, rfl, by decide +kernel, rfl, by decide +kernel, by decide +kernel⟩
theorem ck_law_cell_at : cSs T_law_cell_at Γ N_law_cell_at 0 (defScope (topS 34)) b_law_cell_at (defBody (topS 34)) = true := by decide +kernel
def F_law_draws : List (Str × Nat) := ("_law_cell_at", 26) :: F_law_cell_at
def T_law_draws : Tab := ⟨bltN, csN, F_law_draws, [("deeds_lose", 32, [2])], [("deeds_lose", 32, ["parts"])]⟩
def N_law_draws : List Str := ["cell", "many", "draws", "rest", "seed", "k", "stir", "draw"]
def P_law_draws : List Str := ["cell", "many"]
theorem sc_law_draws : FnScope N_law_draws P_law_draws (defScope (topS 35)) := ⟨rfl, rfl, rfl, by decide +kernel, rfl, by decide +kernel, by decide +kernel⟩
theorem ck_law_draws : cSs T_law_draws Γ N_law_draws 0 (defScope (topS 35)) b_law_draws (defBody (topS 35)) = true := by decide +kernel
def F_law_setup : List (Str × Nat) := ("_law_draws", 25) :: F_law_draws
def T_law_setup : Tab := ⟨bltN, csN, F_law_setup, [("deeds_lose", 32, [2])], [("deeds_lose", 32, ["parts"])]⟩
def N_law_setup : List Str := ["draws", "seats", "draw", "sizes", "rooms"]
def P_law_setup : List Str := ["draws"]
theorem sc_law_setup : FnScope N_law_setup P_law_setup (defScope (topS 36)) := ⟨rfl, rfl, rfl, by decide +kernel, rfl, by decide +kernel, by decide +kernel⟩
theorem ck_law_setup : cSs T_law_setup Γ N_law_setup 0 (defScope (topS 36)) b_law_setup (defBody (topS 36)) = true := by decide +kernel
def F_law_comers : List (Str × Nat) := ("_law_setup", 24) :: F_law_setup
def T_law_comers : Tab := ⟨bltN, csN, F_law_comers, [("deeds_lose", 32, [2])], [("deeds_lose", 32, ["parts"])]⟩
def N_law_comers : List Str := ["setup", "draws", "many", "sizes", "draw"]
def P_law_comers : List Str := ["setup", "draws"]
theorem sc_law_comers : FnScope N_law_comers P_law_comers (defScope (topS 37)) := ⟨rfl, rfl, rfl, by decide +kernel, rfl, by decide +kernel, by decide +kernel⟩
theorem ck_law_comers : cSs T_law_comers Γ N_law_comers 0 (defScope (topS 37)) b_law_comers (defBody (topS 37)) = true := by decide +kernel
def F_law_whole : List (Str × Nat) := ("_law_comers", 27) :: F_law_comers
def T_law_whole : Tab := ⟨bltN, csN, F_law_whole, [("deeds_lose", 32, [2])], [("deeds_lose", 32, ["parts"])]⟩
def N_law_whole : List Str := ["found"]
def P_law_whole : List Str := ["found"]
theorem sc_law_whole : FnScope N_law_whole P_law_whole (defScope (topS 38)) := ⟨rfl, rfl, rfl, by decide +kernel, rfl, by decide +kernel, by decide +kernel⟩
theorem ck_law_whole : cSs T_law_whole Γ N_law_whole 0 (defScope (topS 38)) b_law_whole (defBody (topS 38)) = true := by decide +kernel
def F_law_arrive : List (Str × Nat) := ("_law_whole", 33) :: F_law_whole
def T_law_arrive : Tab := ⟨bltN, csN, F_law_arrive, [("deeds_lose", 32, [2])], [("deeds_lose", 32, ["parts"])]⟩
def N_law_arrive : List Str := ["setup", "line", "singles", "comers", "size"]
def P_law_arrive : List Str := ["setup", "line", "singles", "comers"]
theorem sc_law_arrive : FnScope N_law_arrive P_law_arrive (defScope (topS 39)) := ⟨rfl, rfl, rfl, by decide +kernel, rfl, by decide +kernel, by decide +kernel⟩
theorem ck_law_arrive : cSs T_law_arrive Γ N_law_arrive 0 (defScope (topS 39)) b_law_arrive (defBody (topS 39)) = true := by decide +kernel
def F_law_ways : List (Str × Nat) := ("_law_arrive", 28) :: F_law_arrive
def T_law_ways : Tab := ⟨bltN, csN, F_law_ways, [("deeds_lose", 32, [2])], [("deeds_lose", 32, ["parts"])]⟩
def N_law_ways : List Str := ["line", "left", "singles", "cuts", "front", "ways"]
def P_law_ways : List Str := ["line", "left", "singles", "cuts"]
theorem sc_law_ways : FnScope N_law_ways P_law_ways (defScope (topS 40)) := ⟨rfl, rfl, rfl, by decide +kernel, rfl, by decide +kernel, by decide +kernel⟩
theorem ck_law_ways : cSs T_law_ways Γ N_law_ways 0 (defScope (topS 40)) b_law_ways (defBody (topS 40)) = true := by decide +kernel
def F_law_done : List (Str × Nat) := ("_law_ways", 21) :: F_law_ways
def T_law_done : Tab := ⟨bltN, csN, F_law_done, [("deeds_lose", 32, [2])], [("deeds_lose", 32, ["parts"])]⟩
def N_law_done : List Str := ["deed", "line", "left", "singles", "cuts"]
def P_law_done : List Str := ["deed", "line", "left", "singles", "cuts"]
theorem sc_law_done : FnScope N_law_done P_law_done (defScope (topS 41)) := ⟨rfl, rfl, rfl, by decide +kernel, rfl, by decide +kernel, by decide +kernel⟩
theorem ck_law_done : cSs T_law_done Γ N_law_done 0 (defScope (topS 41)) b_law_done (defBody (topS 41)) = true := by decide +kernel
def F_law_lost : List (Str × Nat) := ("_law_done", 22) :: F_law_done
def T_law_lost : Tab := ⟨bltN, csN, F_law_lost, [("deeds_lose", 32, [2])], [("deeds_lose", 32, ["parts"])]⟩
def N_law_lost : List Str := ["line", "left", "singles"]
def P_law_lost : List Str := ["line", "left", "singles"]
theorem sc_law_lost : FnScope N_law_lost P_law_lost (defScope (topS 42)) := ⟨rfl, rfl, rfl, by decide +kernel, rfl, by decide +kernel, by decide +kernel⟩
theorem ck_law_lost : cSs T_law_lost Γ N_law_lost 0 (defScope (topS 42)) b_law_lost (defBody (topS 42)) = true := by decide +kernel
def F_law_wrong : List (Str × Nat) := ("_law_lost", 30) :: F_law_lost
def T_law_wrong : Tab := ⟨bltN, csN, F_law_wrong, [("deeds_lose", 32, [2])], [("deeds_lose", 32, ["parts"])]⟩
def N_law_wrong : List Str := ["line", "left", "singles", "cuts", "good", "some", "n", "odd", "deed"]
def P_law_wrong : List Str := ["line", "left", "singles", "cuts"]
theorem sc_law_wrong : FnScope N_law_wrong P_law_wrong (defScope (topS 43)) := ⟨rfl, rfl, rfl, by decide +kernel, rfl, by decide +kernel, by decide +kernel⟩
theorem ck_law_wrong : cSs T_law_wrong Γ N_law_wrong 1 (defScope (topS 43)) b_law_wrong (defBody (topS 43)) = true := by decide +kernel
def F_law_chair : List (Str × Nat) := ("_law_wrong", 23) :: F_law_wrong
def T_law_chair : Tab := ⟨bltN, csN, F_law_chair, [("deeds_lose", 32, [2])], [("deeds_lose", 32, ["parts"])]⟩
def N_law_chair : List Str := ["draws", "line", "left", "singles", "cuts", "chair", "trail", "draw", "ways", "deed"]
def P_law_chair : List Str := ["draws", "line", "left", "singles", "cuts"]
theorem sc_law_chair : FnScope N_law_chair P_law_chair (defScope (topS 44)) := ⟨rfl, rfl, rfl, by decide +kernel, rfl, by decide +kernel, by decide +kernel⟩
theorem ck_law_chair : cSs T_law_chair Γ N_law_chair 1 (defScope (topS 44)) b_law_chair (defBody (topS 44)) = true := by decide +kernel
def F_law_spoilt : List (Str × Nat) := ("_law_chair", 29) :: F_law_chair
def T_law_spoilt : Tab := ⟨bltN, csN, F_law_spoilt, [("deeds_lose", 32, [2])], [("deeds_lose", 32, ["parts"])]⟩
def N_law_spoilt : List Str := ["deeds", "trail", "pick", "way", "place", "at", "wrong", "other"]
def P_law_spoilt : List Str := ["deeds", "trail", "pick"]
theorem sc_law_spoilt : FnScope N_law_spoilt P_law_spoilt (defScope (topS 45)) := ⟨rfl, rfl, rfl, by decide +kernel, rfl, by decide +kernel, by decide +kernel⟩
theorem ck_law_spoilt : cSs T_law_spoilt Γ N_law_spoilt 2 (defScope (topS 45)) b_law_spoilt (defBody (topS 45)) = true := by decide +kernel
def F_law : List (Str × Nat) := ("_law_spoilt", 31) :: F_law_spoilt
def T_law : Tab := ⟨bltN, csN, F_law, [("deeds_lose", 32, [2])], [("deeds_lose", 32, ["parts"])]⟩
def N_law : List Str := ["script", "setup", "pick", "cuts", "state", "row", "deeds", "trail", "lost", "cell", "draws", "line", "singles", "left", "chair", "after", "steps", "step", "handed", "due", "used", "passed", "rows", "found"]
def P_law : List Str := ["script"]
theorem sc_law : FnScope N_law P_law (defScope (topS 46)) := ⟨rfl, rfl, rfl, by decide +kernel, rfl, by decide +kernel, by decide +kernel⟩
theorem ck_law : cSs T_law Γ N_law 8 (defScope (topS 46)) b_law (defBody (topS 46)) = true := by decide +kernel
end FC
/-! the head, the table, the end: printed by asm.py -/
namespace FC
open PySem PySem.Spec PyProof.Rows L2 DL
def d_is_integer : He.DefD := ⟨("is_integer", none), "is_integer", "is_integer", defArgs (topS 7), defBody (topS 7), defScope (topS 7), [], []⟩
def d_is_number : He.DefD := ⟨("is_number", none), "is_number", "is_number", defArgs (topS 8), defBody (topS 8), defScope (topS 8), [], []⟩
def d_are_numbers : He.DefD := ⟨("are_numbers", none), "are_numbers", "are_numbers", defArgs (topS 9), defBody (topS 9), defScope (topS 9), [], []⟩
def d_are_most : He.DefD := ⟨("are_most", none), "are_most", "are_most", defArgs (topS 10), defBody (topS 10), defScope (topS 10), [], []⟩
def d_is_setup : He.DefD := ⟨("is_setup", none), "is_setup", "is_setup", defArgs (topS 11), defBody (topS 11), defScope (topS 11), [], []⟩
def d_check_setup : He.DefD := ⟨("check_setup", none), "check_setup", "check_setup", defArgs (topS 12), defBody (topS 12), defScope (topS 12), [], []⟩
def d_is_size : He.DefD := ⟨("is_size", none), "is_size", "is_size", defArgs (topS 13), defBody (topS 13), defScope (topS 13), [], []⟩
def d_is_comers : He.DefD := ⟨("is_comers", none), "is_comers", "is_comers", defArgs (topS 14), defBody (topS 14), defScope (topS 14), [], []⟩
def d_row_fault : He.DefD := ⟨("row_fault", none), "row_fault", "row_fault", defArgs (topS 15), defBody (topS 15), defScope (topS 15), [], []⟩
def d_check_row : He.DefD := ⟨("check_row", none), "check_row", "check_row", defArgs (topS 16), defBody (topS 16), defScope (topS 16), [(.int 300)], []⟩
def d_can_be_done : He.DefD := ⟨("can_be_done", none), "can_be_done", "can_be_done", defArgs (topS 18), defBody (topS 18), defScope (topS 18), [], []⟩
def d_front_of : He.DefD := ⟨("front_of", none), "front_of", "front_of", defArgs (topS 19), defBody (topS 19), defScope (topS 19), [], []⟩
def d_seated : He.DefD := ⟨("seated", none), "seated", "seated", defArgs (topS 20), defBody (topS 20), defScope (topS 20), [], []⟩
def d_let_in : He.DefD := ⟨("let_in", none), "let_in", "let_in", defArgs (topS 21), defBody (topS 21), defScope (topS 21), [], []⟩
def d_is_count : He.DefD := ⟨("is_count", none), "is_count", "is_count", defArgs (topS 25), defBody (topS 25), defScope (topS 25), [], []⟩
def d_check_ahead : He.DefD := ⟨("check_ahead", none), "check_ahead", "check_ahead", defArgs (topS 26), defBody (topS 26), defScope (topS 26), [], []⟩
def d_check_count : He.DefD := ⟨("check_count", none), "check_count", "check_count", defArgs (topS 27), defBody (topS 27), defScope (topS 27), [], []⟩
def d_may_be_done : He.DefD := ⟨("may_be_done", none), "may_be_done", "may_be_done", defArgs (topS 28), defBody (topS 28), defScope (topS 28), [], []⟩
def d_is_done : He.DefD := ⟨("is_done", none), "is_done", "is_done", defArgs (topS 29), defBody (topS 29), defScope (topS 29), [], []⟩
def d_after_deed : He.DefD := ⟨("after_deed", none), "after_deed", "after_deed", defArgs (topS 30), defBody (topS 30), defScope (topS 30), [], []⟩
def d_after_deeds : He.DefD := ⟨("after_deeds", none), "after_deeds", "after_deeds", defArgs (topS 31), defBody (topS 31), defScope (topS 31), [], []⟩
def d_deeds_lose : He.DefD := ⟨("deeds_lose", none), "deeds_lose", "deeds_lose", defArgs (topS 32), defBody (topS 32), defScope (topS 32), [], [("parts", (.int 0))]⟩
def d_law_cell_at : He.DefD := ⟨("_law_cell_at", none), "_law_cell_at", "_law_cell_at", defArgs (topS 34), defBody (topS 34), defScope (topS 34), [], []⟩
def d_law_draws : He.DefD := ⟨("_law_draws", none), "_law_draws", "_law_draws", defArgs (topS 35), defBody (topS 35), defScope (topS 35), [], []⟩
def d_law_setup : He.DefD := ⟨("_law_setup", none), "_law_setup", "_law_setup", defArgs (topS 36), defBody (topS 36), defScope (topS 36), [], []⟩
def d_law_comers : He.DefD := ⟨("_law_comers", none), "_law_comers", "_law_comers", defArgs (topS 37), defBody (topS 37), defScope (topS 37), [], []⟩
def d_law_whole : He.DefD := ⟨("_law_whole", none), "_law_whole", "_law_whole", defArgs (topS 38), defBody (topS 38), defScope (topS 38), [], []⟩
def d_law_arrive : He.DefD := ⟨("_law_arrive", none), "_law_arrive", "_law_arrive", defArgs (topS 39), defBody (topS 39), defScope (topS 39), [], []⟩
def d_law_ways : He.DefD := ⟨("_law_ways", none), "_law_ways", "_law_ways", defArgs (topS 40), defBody (topS 40), defScope (topS 40), [], []⟩
def d_law_done : He.DefD := ⟨("_law_done", none), "_law_done", "_law_done", defArgs (topS 41), defBody (topS 41), defScope (topS 41), [], []⟩
def d_law_lost : He.DefD := ⟨("_law_lost", none), "_law_lost", "_law_lost", defArgs (topS 42), defBody (topS 42), defScope (topS 42), [], []⟩
def d_law_wrong : He.DefD := ⟨("_law_wrong", none), "_law_wrong", "_law_wrong", defArgs (topS 43), defBody (topS 43), defScope (topS 43), [], []⟩
def d_law_chair : He.DefD := ⟨("_law_chair", none), "_law_chair", "_law_chair", defArgs (topS 44), defBody (topS 44), defScope (topS 44), [], []⟩
def d_law_spoilt : He.DefD := ⟨("_law_spoilt", none), "_law_spoilt", "_law_spoilt", defArgs (topS 45), defBody (topS 45), defScope (topS 45), [], []⟩
def d_law : He.DefD := ⟨("law", none), "law", "law", defArgs (topS 46), defBody (topS 46), defScope (topS 46), [], []⟩
def fn : List He.DefD := [d_is_integer, d_is_number, d_are_numbers, d_are_most, d_is_setup, d_check_setup, d_is_size, d_is_comers, d_row_fault, d_check_row, d_can_be_done, d_front_of, d_seated, d_let_in, d_is_count, d_check_ahead, d_check_count, d_may_be_done, d_is_done, d_after_deed, d_after_deeds, d_deeds_lose, d_law_cell_at, d_law_draws, d_law_setup, d_law_comers, d_law_whole, d_law_arrive, d_law_ways, d_law_done, d_law_lost, d_law_wrong, d_law_chair, d_law_spoilt, d_law]
def fa0 : List He.Fa := [.glo "is_integer", .glo "is_number", .glo "are_numbers", .glo "are_most", .glo "is_setup", .glo "check_setup", .glo "is_size", .glo "is_comers", .glo "row_fault", .glo "check_row", .glo "can_be_done", .glo "front_of", .glo "seated", .glo "let_in", .glo "is_count", .glo "check_ahead", .glo "check_count", .glo "may_be_done", .glo "is_done", .glo "after_deed", .glo "after_deeds", .glo "deeds_lose", .glo "_law_cell_at", .glo "_law_draws", .glo "_law_setup", .glo "_law_comers", .glo "_law_whole", .glo "_law_arrive", .glo "_law_ways", .glo "_law_done"]
def fa1 : List He.Fa := [.glo "_law_lost", .glo "_law_wrong", .glo "_law_chair", .glo "_law_spoilt", .glo "law", .free "all", .free "bool", .free "enumerate", .free "int", .free "isinstance", .free "len", .free "list", .free "max", .free "min", .free "range", .free "str", .free "tuple", .free "zip", .int "MOST_BEATS" 300, .int "MOST_AHEAD" 16, .glo "FILLING"]
def fa : List He.Fa := fa0 ++ fa1
def tf : TupF := [("FILLING", (["group", "single", "part"] : List Str).map He.Dv.str)]
abbrev R : PySem.W.OpenRow := PySem.W.OpenLaw.row PySem.Challenge.rw_fillchairs_k61_deeds_judged
abbrev hk : PySem.W.Hook := hookT 4 fa fn tf
def ob (s : PySem.W.SharedT) : He.AlD × Bool := obsTG 4 fa fn tf (HandSHeadRun.getT s)
theorem ob_eq (s : PySem.W.SharedT) : ob s = hk.obs s.abs := obsTG_eq (HandSHeadRun.getT_eq s)
def loose0 : List Str := ["ChairError", "BadSetup", "BadRow", "BadNumber", "MOST_BEATS", "is_integer", "is_number", "are_numbers", "are_most", "is_setup", "check_setup", "is_size", "is_comers", "row_fault", "check_row", "can_be_done", "front_of", "seated", "let_in", "MOST_AHEAD", "FILLING", "is_count", "check_ahead", "check_count", "may_be_done", "is_done", "after_deed", "after_deeds", "deeds_lose", "_law_cell_at"]
def loose1 : List Str := ["_law_draws", "_law_setup", "_law_comers", "_law_whole", "_law_arrive", "_law_ways", "_law_done", "_law_lost", "_law_wrong", "_law_chair", "_law_spoilt"]
def loose : List Str := loose0 ++ loose1
theorem run (w : World) : HandSHeadRun.RunEq R (PySem.W.view R.prog [46]) hk ob 3000 loose w := by
  intro os
  kernel_rfl
section
variable {P : Program} {w : World} {K : PySem.W.Frag} {mg : Str → Option Value} {base : Heap} {h : Heap}
theorem blt_ok (X : K.In h) (G : h.Ns mainGlobals mg) (c : He.SaysD fa fn K) : ∀ x ∈ bltN, mg x = none := by
  intro x hx
  simp only [bltN, List.mem_cons, List.not_mem_nil, or_false] at hx
  rcases hx with rfl | rfl | rfl | rfl | rfl | rfl | rfl | rfl | rfl | rfl | rfl | rfl | rfl
  · exact He.free_ok X G (c.fact 35 rfl)
  · exact He.free_ok X G (c.fact 36 rfl)
  · exact He.free_ok X G (c.fact 37 rfl)
  · exact He.free_ok X G (c.fact 38 rfl)
  · exact He.free_ok X G (c.fact 39 rfl)
  · exact He.free_ok X G (c.fact 40 rfl)
  · exact He.free_ok X G (c.fact 41 rfl)
  · exact He.free_ok X G (c.fact 42 rfl)
  · exact He.free_ok X G (c.fact 43 rfl)
  · exact He.free_ok X G (c.fact 44 rfl)
  · exact He.free_ok X G (c.fact 45 rfl)
  · exact He.free_ok X G (c.fact 46 rfl)
  · exact He.free_ok X G (c.fact 47 rfl)
theorem cst_ok (X : K.In h) (G : h.Ns mainGlobals mg) (c : He.SaysD fa fn K) (ct : tupsB tf K = true) : ∀ x i, (x, i) ∈ csN → ∃ v u, mg x = some u ∧ RelV v u ∧ ∀ H, RV w K H v (Ct i) := by
  intro x i hx
  simp only [csN, List.mem_cons, List.not_mem_nil, or_false, Prod.mk.injEq] at hx
  rcases hx with ⟨rfl, rfl⟩ | ⟨rfl, rfl⟩ | ⟨rfl, rfl⟩
  · exact cst_int (He.int_ok X G (c.fact 48 rfl))
  · exact cst_int (He.int_ok X G (c.fact 49 rfl))
  · exact cst_strs (xs := ["group", "single", "part"]) (He.glo_ok X G (c.fact 50 rfl)) (tupsB_at ct (by simp [tf])) (by decide)
theorem facts (X : K.In h) (G : h.Ns mainGlobals mg) (c : He.SaysD fa fn K) (ct : tupsB tf K = true) {f : Addr} (hfa : mg ("law" : Str) = some (.ref f)) :
    ∃ fd : FuncData, (∀ (s : Shared) (v : Value), BindsTo s fd ⟨[v], []⟩ [("script", v)]) ∧ ∀ base : Heap, K.In base → base.Ns mainGlobals mg → FnOk P w K mg base (L2.CX P w) (Γ 34).lv f fd ["script"] (lsp w K mg (Γ 34)) := by
  obtain ⟨fd0, F0⟩ := c.def_ 0 (d := d_is_integer) rfl
  obtain ⟨fd1, F1⟩ := c.def_ 1 (d := d_is_number) rfl
  obtain ⟨fd2, F2⟩ := c.def_ 2 (d := d_are_numbers) rfl
  obtain ⟨fd3, F3⟩ := c.def_ 3 (d := d_are_most) rfl
  obtain ⟨fd4, F4⟩ := c.def_ 4 (d := d_is_setup) rfl
  obtain ⟨fd5, F5⟩ := c.def_ 5 (d := d_check_setup) rfl
  obtain ⟨fd6, F6⟩ := c.def_ 6 (d := d_is_size) rfl
  obtain ⟨fd7, F7⟩ := c.def_ 7 (d := d_is_comers) rfl
  obtain ⟨fd8, F8⟩ := c.def_ 8 (d := d_row_fault) rfl
  obtain ⟨fd9, F9⟩ := c.def_ 9 (d := d_check_row) rfl
  obtain ⟨fd10, F10⟩ := c.def_ 10 (d := d_can_be_done) rfl
  obtain ⟨fd11, F11⟩ := c.def_ 11 (d := d_front_of) rfl
  obtain ⟨fd12, F12⟩ := c.def_ 12 (d := d_seated) rfl
  obtain ⟨fd13, F13⟩ := c.def_ 13 (d := d_let_in) rfl
  obtain ⟨fd14, F14⟩ := c.def_ 14 (d := d_is_count) rfl
  obtain ⟨fd15, F15⟩ := c.def_ 15 (d := d_check_ahead) rfl
  obtain ⟨fd16, F16⟩ := c.def_ 16 (d := d_check_count) rfl
  obtain ⟨fd17, F17⟩ := c.def_ 17 (d := d_may_be_done) rfl
  obtain ⟨fd18, F18⟩ := c.def_ 18 (d := d_is_done) rfl
  obtain ⟨fd19, F19⟩ := c.def_ 19 (d := d_after_deed) rfl
  obtain ⟨fd20, F20⟩ := c.def_ 20 (d := d_after_deeds) rfl
  obtain ⟨fd21, F21⟩ := c.def_ 21 (d := d_deeds_lose) rfl
  obtain ⟨fd22, F22⟩ := c.def_ 22 (d := d_law_cell_at) rfl
  obtain ⟨fd23, F23⟩ := c.def_ 23 (d := d_law_draws) rfl
  obtain ⟨fd24, F24⟩ := c.def_ 24 (d := d_law_setup) rfl
  obtain ⟨fd25, F25⟩ := c.def_ 25 (d := d_law_comers) rfl
  obtain ⟨fd26, F26⟩ := c.def_ 26 (d := d_law_whole) rfl
  obtain ⟨fd27, F27⟩ := c.def_ 27 (d := d_law_arrive) rfl
  obtain ⟨fd28, F28⟩ := c.def_ 28 (d := d_law_ways) rfl
  obtain ⟨fd29, F29⟩ := c.def_ 29 (d := d_law_done) rfl
  obtain ⟨fd30, F30⟩ := c.def_ 30 (d := d_law_lost) rfl
  obtain ⟨fd31, F31⟩ := c.def_ 31 (d := d_law_wrong) rfl
  obtain ⟨fd32, F32⟩ := c.def_ 32 (d := d_law_chair) rfl
  obtain ⟨fd33, F33⟩ := c.def_ 33 (d := d_law_spoilt) rfl
  obtain ⟨fd34, F34⟩ := c.def_ 34 (d := d_law) rfl
  have e := hfa.symm.trans (He.glo_ok X G (c.fact 34 rfl))
  cases e
  have bl := FunD.bindsA (ps := ["script"]) F34 fun _ _ _ _ _ _ us hl => match us, hl with | [_], _ => rfl
  refine ⟨fd34, fun s v => bl s [v] rfl, fun base XB GB => ?_⟩
  have t0 : TabOk ⟨bltN, csN, [], [], []⟩ Γ Ct P w K mg base := TabOk.empty (blt_ok X G c) (cst_ok X G c ct)
  have a0 : FnAt P w K mg base (Γ 0) "is_integer" _ fd0 P_is_integer := ⟨He.glo_ok X G (c.fact 0 rfl), F0.kp, def_ok (fn := Γ 0) (show TabOk T_is_integer Γ Ct P w K mg base from t0) F0 sc_is_integer rfl rfl ck_is_integer fun ds S R E _ h => p_is_integer ds S R E h⟩
  have b0 : Binds K fd0 P_is_integer [] := FunD.bindsN F0 fun _ _ _ _ _ _ us hl => match us, hl with | [_], _ => rfl
  have t1 := t0.addF a0 b0
  have a1 : FnAt P w K mg base (Γ 1) "is_number" _ fd1 P_is_number := ⟨He.glo_ok X G (c.fact 1 rfl), F1.kp, def_ok (fn := Γ 1) (show TabOk T_is_number Γ Ct P w K mg base from t1) F1 sc_is_number rfl rfl ck_is_number fun ds S R E _ h => p_is_number ds S R E h⟩
  have b1 : Binds K fd1 P_is_number [] := FunD.bindsN F1 fun _ _ _ _ _ _ us hl => match us, hl with | [_, _, _], _ => rfl
  have t2 := t1.addF a1 b1
  have a2 : FnAt P w K mg base (Γ 2) "are_numbers" _ fd2 P_are_numbers := ⟨He.glo_ok X G (c.fact 2 rfl), F2.kp, def_ok (fn := Γ 2) (show TabOk T_are_numbers Γ Ct P w K mg base from t2) F2 sc_are_numbers rfl rfl ck_are_numbers fun ds S R E _ h => p_are_numbers ds S R E h⟩
  have b2 : Binds K fd2 P_are_numbers [] := FunD.bindsN F2 fun _ _ _ _ _ _ us hl => match us, hl with | [_, _, _, _, _], _ => rfl
  have t3 := t2.addF a2 b2
  have a3 : FnAt P w K mg base (Γ 3) "are_most" _ fd3 P_are_most := ⟨He.glo_ok X G (c.fact 3 rfl), F3.kp, def_ok (fn := Γ 3) (show TabOk T_are_most Γ Ct P w K mg base from t3) F3 sc_are_most rfl rfl ck_are_most fun ds S R E _ h => p_are_most ds S R E h⟩
  have b3 : Binds K fd3 P_are_most [] := FunD.bindsN F3 fun _ _ _ _ _ _ us hl => match us, hl with | [_, _, _, _], _ => rfl
  have t4 := t3.addF a3 b3
  have a4 : FnAt P w K mg base (Γ 4) "is_setup" _ fd4 P_is_setup := ⟨He.glo_ok X G (c.fact 4 rfl), F4.kp, def_ok (fn := Γ 4) (show TabOk T_is_setup Γ Ct P w K mg base from t4) F4 sc_is_setup rfl rfl ck_is_setup fun ds S R E _ h => p_is_setup ds S R E h⟩
  have b4 : Binds K fd4 P_is_setup [] := FunD.bindsN F4 fun _ _ _ _ _ _ us hl => match us, hl with | [_], _ => rfl
  have t5 := t4.addF a4 b4
  have a5 : FnAt P w K mg base (Γ 8) "check_setup" _ fd5 P_check_setup := ⟨He.glo_ok X G (c.fact 5 rfl), F5.kp, def_ok (fn := Γ 8) (show TabOk T_check_setup Γ Ct P w K mg base from t5) F5 sc_check_setup rfl rfl ck_check_setup fun ds S R E _ h => p_check_setup ds S R E h⟩
  have b5 : Binds K fd5 P_check_setup [] := FunD.bindsN F5 fun _ _ _ _ _ _ us hl => match us, hl with | [_], _ => rfl
  have t6 := t5.addF a5 b5
  have a6 : FnAt P w K mg base (Γ 5) "is_size" _ fd6 P_is_size := ⟨He.glo_ok X G (c.fact 6 rfl), F6.kp, def_ok (fn := Γ 5) (show TabOk T_is_size Γ Ct P w K mg base from t6) F6 sc_is_size rfl rfl ck_is_size fun ds S R E _ h => p_is_size ds S R E h⟩
  have b6 : Binds K fd6 P_is_size [] := FunD.bindsN F6 fun _ _ _ _ _ _ us hl => match us, hl with | [_, _], _ => rfl
  have t7 := t6.addF a6 b6
  have a7 : FnAt P w K mg base (Γ 6) "is_comers" _ fd7 P_is_comers := ⟨He.glo_ok X G (c.fact 7 rfl), F7.kp, def_ok (fn := Γ 6) (show TabOk T_is_comers Γ Ct P w K mg base from t7) F7 sc_is_comers rfl rfl ck_is_comers fun ds S R E _ h => p_is_comers ds S R E h⟩
  have b7 : Binds K fd7 P_is_comers [] := FunD.bindsN F7 fun _ _ _ _ _ _ us hl => match us, hl with | [_, _], _ => rfl
  have t8 := t7.addF a7 b7
  have a8 : FnAt P w K mg base (Γ 7) "row_fault" _ fd8 P_row_fault := ⟨He.glo_ok X G (c.fact 8 rfl), F8.kp, def_ok (fn := Γ 7) (show TabOk T_row_fault Γ Ct P w K mg base from t8) F8 sc_row_fault rfl rfl ck_row_fault fun ds S R E _ h => p_row_fault ds S R E h⟩
  have b8 : Binds K fd8 P_row_fault [] := FunD.bindsN F8 fun _ _ _ _ _ _ us hl => match us, hl with | [_, _, _], _ => rfl
  have t9 := t8.addF a8 b8
  have a9 : FnAt P w K mg base (Γ 9) "check_row" _ fd9 P_check_row := ⟨He.glo_ok X G (c.fact 9 rfl), F9.kp, def_ok (fn := Γ 9) (show TabOk T_check_row Γ Ct P w K mg base from t9) F9 sc_check_row rfl rfl ck_check_row fun ds S R E _ h => p_check_row ds S R E h⟩
  have b9 : Binds K fd9 P_check_row [] := by
    obtain ⟨ds, v, b⟩ := FunD.binds1 (ps := P_check_row) F9 3 1 (by intro z; cases z) rfl fun _ _ _ _ _ _ _ us its hl hi => match us, its, hl, hi with | [_, _, _], [_], _, _ => ⟨_, rfl, rfl⟩
    cases v
    exact b
  have t10 := t9.addF a9 b9
  have a10 : FnAt P w K mg base (Γ 11) "can_be_done" _ fd10 P_can_be_done := ⟨He.glo_ok X G (c.fact 10 rfl), F10.kp, def_ok (fn := Γ 11) (show TabOk T_can_be_done Γ Ct P w K mg base from t10) F10 sc_can_be_done rfl rfl ck_can_be_done fun ds S R E _ h => p_can_be_done ds S R E h⟩
  have b10 : Binds K fd10 P_can_be_done [] := FunD.bindsN F10 fun _ _ _ _ _ _ us hl => match us, hl with | [_, _, _, _], _ => rfl
  have t11 := t10.addF a10 b10
  have a11 : FnAt P w K mg base (Γ 12) "front_of" _ fd11 P_front_of := ⟨He.glo_ok X G (c.fact 11 rfl), F11.kp, def_ok (fn := Γ 12) (show TabOk T_front_of Γ Ct P w K mg base from t11) F11 sc_front_of rfl rfl ck_front_of fun ds S R E _ h => p_front_of ds S R E h⟩
  have b11 : Binds K fd11 P_front_of [] := FunD.bindsN F11 fun _ _ _ _ _ _ us hl => match us, hl with | [_], _ => rfl
  have t12 := t11.addF a11 b11
  have a12 : FnAt P w K mg base (Γ 14) "seated" _ fd12 P_seated := ⟨He.glo_ok X G (c.fact 12 rfl), F12.kp, def_ok (fn := Γ 14) (show TabOk T_seated Γ Ct P w K mg base from t12) F12 sc_seated rfl rfl ck_seated fun ds S R E _ h => p_seated ds S R E h⟩
  have b12 : Binds K fd12 P_seated [] := FunD.bindsN F12 fun _ _ _ _ _ _ us hl => match us, hl with | [_, _, _, _], _ => rfl
  have t13 := t12.addF a12 b12
  have a13 : FnAt P w K mg base (Γ 16) "let_in" _ fd13 P_let_in := ⟨He.glo_ok X G (c.fact 13 rfl), F13.kp, def_ok (fn := Γ 16) (show TabOk T_let_in Γ Ct P w K mg base from t13) F13 sc_let_in rfl rfl ck_let_in fun ds S R E _ h => p_let_in ds S R E h⟩
  have b13 : Binds K fd13 P_let_in [] := FunD.bindsN F13 fun _ _ _ _ _ _ us hl => match us, hl with | [_, _, _, _], _ => rfl
  have t14 := t13.addF a13 b13
  have a14 : FnAt P w K mg base (Γ 10) "is_count" _ fd14 P_is_count := ⟨He.glo_ok X G (c.fact 14 rfl), F14.kp, def_ok (fn := Γ 10) (show TabOk T_is_count Γ Ct P w K mg base from t14) F14 sc_is_count rfl rfl ck_is_count fun ds S R E _ h => p_is_count ds S R E h⟩
  have b14 : Binds K fd14 P_is_count [] := FunD.bindsN F14 fun _ _ _ _ _ _ us hl => match us, hl with | [_], _ => rfl
  have t15 := t14.addF a14 b14
  have a15 : FnAt P w K mg base (Γ 18) "check_ahead" _ fd15 P_check_ahead := ⟨He.glo_ok X G (c.fact 15 rfl), F15.kp, def_ok (fn := Γ 18) (show TabOk T_check_ahead Γ Ct P w K mg base from t15) F15 sc_check_ahead rfl rfl ck_check_ahead fun ds S R E _ h => p_check_ahead ds S R E h⟩
  have b15 : Binds K fd15 P_check_ahead [] := FunD.bindsN F15 fun _ _ _ _ _ _ us hl => match us, hl with | [_, _], _ => rfl
  have t16 := t15.addF a15 b15
  have a16 : FnAt P w K mg base (Γ 19) "check_count" _ fd16 P_check_count := ⟨He.glo_ok X G (c.fact 16 rfl), F16.kp, def_ok (fn := Γ 19) (show TabOk T_check_count Γ Ct P w K mg base from t16) F16 sc_check_count rfl rfl ck_check_count fun ds S R E _ h => p_check_count ds S R E h⟩
  have b16 : Binds K fd16 P_check_count [] := FunD.bindsN F16 fun _ _ _ _ _ _ us hl => match us, hl with | [_], _ => rfl
  have t17 := t16.addF a16 b16
  have a17 : FnAt P w K mg base (Γ 13) "may_be_done" _ fd17 P_may_be_done := ⟨He.glo_ok X G (c.fact 17 rfl), F17.kp, def_ok (fn := Γ 13) (show TabOk T_may_be_done Γ Ct P w K mg base from t17) F17 sc_may_be_done rfl rfl ck_may_be_done fun ds S R E _ h => p_may_be_done ds S R E h⟩
  have b17 : Binds K fd17 P_may_be_done [] := FunD.bindsN F17 fun _ _ _ _ _ _ us hl => match us, hl with | [_, _, _, _, _], _ => rfl
  have t18 := t17.addF a17 b17
  have a18 : FnAt P w K mg base (Γ 15) "is_done" _ fd18 P_is_done := ⟨He.glo_ok X G (c.fact 18 rfl), F18.kp, def_ok (fn := Γ 15) (show TabOk T_is_done Γ Ct P w K mg base from t18) F18 sc_is_done rfl rfl ck_is_done fun ds S R E _ h => p_is_done ds S R E h⟩
  have b18 : Binds K fd18 P_is_done [] := FunD.bindsN F18 fun _ _ _ _ _ _ us hl => match us, hl with | [_, _], _ => rfl
  have t19 := t18.addF a18 b18
  have a19 : FnAt P w K mg base (Γ 17) "after_deed" _ fd19 P_after_deed := ⟨He.glo_ok X G (c.fact 19 rfl), F19.kp, def_ok (fn := Γ 17) (show TabOk T_after_deed Γ Ct P w K mg base from t19) F19 sc_after_deed rfl rfl ck_after_deed fun ds S R E _ h => p_after_deed ds S R E h⟩
  have b19 : Binds K fd19 P_after_deed [] := FunD.bindsN F19 fun _ _ _ _ _ _ us hl => match us, hl with | [_, _, _, _, _], _ => rfl
  have t20 := t19.addF a19 b19
  have a20 : FnAt P w K mg base (Γ 20) "after_deeds" _ fd20 P_after_deeds := ⟨He.glo_ok X G (c.fact 20 rfl), F20.kp, def_ok (fn := Γ 20) (show TabOk T_after_deeds Γ Ct P w K mg base from t20) F20 sc_after_deeds rfl rfl ck_after_deeds fun ds S R E _ h => p_after_deeds ds S R E h⟩
  have b20 : Binds K fd20 P_after_deeds [] := FunD.bindsN F20 fun _ _ _ _ _ _ us hl => match us, hl with | [_, _, _, _, _], _ => rfl
  have t21 := t20.addF a20 b20
  have a21 : FnAt P w K mg base (Γ 32) "deeds_lose" _ fd21 P_deeds_lose := ⟨He.glo_ok X G (c.fact 21 rfl), F21.kp, def_ok (fn := Γ 32) (show TabOk T_deeds_lose Γ Ct P w K mg base from t21) F21 sc_deeds_lose rfl rfl ck_deeds_lose fun ds S R E _ h => p_deeds_lose ds S R E h⟩
  have b21 : ∃ ds, Vals ((d_deeds_lose.kws K).map (·.2)) ds ∧ Binds K fd21 P_deeds_lose ds := FunD.binds0 F21 3 (by intro z; cases z) rfl fun D _ _ _ _ _ us ks hl hk => match us, ks, hl, hk with | [_, _, _], [_], _, _ => ⟨_, _, _, _, _, _, rfl, rfl, rfl⟩
  obtain ⟨ds21, v21, b21⟩ := b21
  have t22 := t21.addD (cs := [2]) a21 v21 (fun H => .cons (.int _) <| .nil) b21
  have k21 : ∃ mv : List Value, KBn K fd21 P_deeds_lose 3 ["parts"] (fun us ws => us ++ ws) (fun vs zs => vs ++ zs) := FunD.kbinds0 F21 3 ["parts"] [] (fun us _ ws => us ++ ws) (by intro z; cases z) (fun _ z => nomatch z) (fun a _ c => a.append c) fun D _ _ _ _ _ us mv ws hl hm hk => match us, mv, ws, hl, hm, hk with | [_, _, _], [], [_], _, _, _ => rfl
  obtain ⟨mv21, kb21⟩ := k21
  have t23 := t22.addK (ks := ["parts"]) a21 rfl kb21
  have a22 : FnAt P w K mg base (Γ 26) "_law_cell_at" _ fd22 P_law_cell_at := ⟨He.glo_ok X G (c.fact 22 rfl), F22.kp, def_ok (fn := Γ 26) (show TabOk T_law_cell_at Γ Ct P w K mg base from t23) F22 sc_law_cell_at rfl rfl ck_law_cell_at fun ds S R E _ h => p_law_cell_at ds S R E h⟩
  have b22 : Binds K fd22 P_law_cell_at [] := FunD.bindsN F22 fun _ _ _ _ _ _ us hl => match us, hl with | [_, _], _ => rfl
  have t24 := t23.addF a22 b22
  have a23 : FnAt P w K mg base (Γ 25) "_law_draws" _ fd23 P_law_draws := ⟨He.glo_ok X G (c.fact 23 rfl), F23.kp, def_ok (fn := Γ 25) (show TabOk T_law_draws Γ Ct P w K mg base from t24) F23 sc_law_draws rfl rfl ck_law_draws fun ds S R E _ h => p_law_draws ds S R E h⟩
  have b23 : Binds K fd23 P_law_draws [] := FunD.bindsN F23 fun _ _ _ _ _ _ us hl => match us, hl with | [_, _], _ => rfl
  have t25 := t24.addF a23 b23
  have a24 : FnAt P w K mg base (Γ 24) "_law_setup" _ fd24 P_law_setup := ⟨He.glo_ok X G (c.fact 24 rfl), F24.kp, def_ok (fn := Γ 24) (show TabOk T_law_setup Γ Ct P w K mg base from t25) F24 sc_law_setup rfl rfl ck_law_setup fun ds S R E _ h => p_law_setup ds S R E h⟩
  have b24 : Binds K fd24 P_law_setup [] := FunD.bindsN F24 fun _ _ _ _ _ _ us hl => match us, hl with | [_], _ => rfl
  have t26 := t25.addF a24 b24
  have a25 : FnAt P w K mg base (Γ 27) "_law_comers" _ fd25 P_law_comers := ⟨He.glo_ok X G (c.fact 25 rfl), F25.kp, def_ok (fn := Γ 27) (show TabOk T_law_comers Γ Ct P w K mg base from t26) F25 sc_law_comers rfl rfl ck_law_comers fun ds S R E _ h => p_law_comers ds S R E h⟩
  have b25 : Binds K fd25 P_law_comers [] := FunD.bindsN F25 fun _ _ _ _ _ _ us hl => match us, hl with | [_, _], _ => rfl
  have t27 := t26.addF a25 b25
  have a26 : FnAt P w K mg base (Γ 33) "_law_whole" _ fd26 P_law_whole := ⟨He.glo_ok X G (c.fact 26 rfl), F26.kp, def_ok (fn := Γ 33) (show TabOk T_law_whole Γ Ct P w K mg base from t27) F26 sc_law_whole rfl rfl ck_law_whole fun ds S R E _ h => p_law_whole ds S R E h⟩
  have b26 : Binds K fd26 P_law_whole [] := FunD.bindsN F26 fun _ _ _ _ _ _ us hl => match us, hl with | [_], _ => rfl
  have t28 := t27.addF a26 b26
  have a27 : FnAt P w K mg base (Γ 28) "_law_arrive" _ fd27 P_law_arrive := ⟨He.glo_ok X G (c.fact 27 rfl), F27.kp, def_ok (fn := Γ 28) (show TabOk T_law_arrive Γ Ct P w K mg base from t28) F27 sc_law_arrive rfl rfl ck_law_arrive fun ds S R E _ h => p_law_arrive ds S R E h⟩
  have b27 : Binds K fd27 P_law_arrive [] := FunD.bindsN F27 fun _ _ _ _ _ _ us hl => match us, hl with | [_, _, _, _], _ => rfl
  have t29 := t28.addF a27 b27
  have a28 : FnAt P w K mg base (Γ 21) "_law_ways" _ fd28 P_law_ways := ⟨He.glo_ok X G (c.fact 28 rfl), F28.kp, def_ok (fn := Γ 21) (show TabOk T_law_ways Γ Ct P w K mg base from t29) F28 sc_law_ways rfl rfl ck_law_ways fun ds S R E _ h => p_law_ways ds S R E h⟩
  have b28 : Binds K fd28 P_law_ways [] := FunD.bindsN F28 fun _ _ _ _ _ _ us hl => match us, hl with | [_, _, _, _], _ => rfl
  have t30 := t29.addF a28 b28
  have a29 : FnAt P w K mg base (Γ 22) "_law_done" _ fd29 P_law_done := ⟨He.glo_ok X G (c.fact 29 rfl), F29.kp, def_ok (fn := Γ 22) (show TabOk T_law_done Γ Ct P w K mg base from t30) F29 sc_law_done rfl rfl ck_law_done fun ds S R E _ h => p_law_done ds S R E h⟩
  have b29 : Binds K fd29 P_law_done [] := FunD.bindsN F29 fun _ _ _ _ _ _ us hl => match us, hl with | [_, _, _, _, _], _ => rfl
  have t31 := t30.addF a29 b29
  have a30 : FnAt P w K mg base (Γ 30) "_law_lost" _ fd30 P_law_lost := ⟨He.glo_ok X G (c.fact 30 rfl), F30.kp, def_ok (fn := Γ 30) (show TabOk T_law_lost Γ Ct P w K mg base from t31) F30 sc_law_lost rfl rfl ck_law_lost fun ds S R E _ h => p_law_lost ds S R E h⟩
  have b30 : Binds K fd30 P_law_lost [] := FunD.bindsN F30 fun _ _ _ _ _ _ us hl => match us, hl with | [_, _, _], _ => rfl
  have t32 := t31.addF a30 b30
  have a31 : FnAt P w K mg base (Γ 23) "_law_wrong" _ fd31 P_law_wrong := ⟨He.glo_ok X G (c.fact 31 rfl), F31.kp, def_ok (fn := Γ 23) (show TabOk T_law_wrong Γ Ct P w K mg base from t32) F31 sc_law_wrong rfl rfl ck_law_wrong fun ds S R E _ h => p_law_wrong ds S R E h⟩
  have b31 : Binds K fd31 P_law_wrong [] := FunD.bindsN F31 fun _ _ _ _ _ _ us hl => match us, hl with | [_, _, _, _], _ => rfl
  have t33 := t32.addF a31 b31
  have a32 : FnAt P w K mg base (Γ 29) "_law_chair" _ fd32 P_law_chair := ⟨He.glo_ok X G (c.fact 32 rfl), F32.kp, def_ok (fn := Γ 29) (show TabOk T_law_chair Γ Ct P w K mg base from t33) F32 sc_law_chair rfl rfl ck_law_chair fun ds S R E _ h => p_law_chair ds S R E h⟩
  have b32 : Binds K fd32 P_law_chair [] := FunD.bindsN F32 fun _ _ _ _ _ _ us hl => match us, hl with | [_, _, _, _, _], _ => rfl
  have t34 := t33.addF a32 b32
  have a33 : FnAt P w K mg base (Γ 31) "_law_spoilt" _ fd33 P_law_spoilt := ⟨He.glo_ok X G (c.fact 33 rfl), F33.kp, def_ok (fn := Γ 31) (show TabOk T_law_spoilt Γ Ct P w K mg base from t34) F33 sc_law_spoilt rfl rfl ck_law_spoilt fun ds S R E _ h => p_law_spoilt ds S R E h⟩
  have b33 : Binds K fd33 P_law_spoilt [] := FunD.bindsN F33 fun _ _ _ _ _ _ us hl => match us, hl with | [_, _, _], _ => rfl
  have t35 := t34.addF a33 b33
  exact def_ok (fn := Γ 34) (show TabOk T_law Γ Ct P w K mg base from t35) F34 sc_law rfl rfl ck_law fun ds S R E _ h => p_law ds S R E h
end
end FC
open PySem PySem.W PySem.Calls PyProof.Rows
theorem PySem.Challenge.cw_fillchairs_k61_deeds_judged_holds : PySem.Challenge.rw_fillchairs_k61_deeds_judged.Holds := by
  w_on; o_law
  refine HandSHeadRun.head_any (r := FC.R) (q := view FC.R.prog [46]) (H := FC.hk) (ob := FC.ob) (M := 3000) (loose := FC.loose) (d := HandSHeadRun.topDef FC.R.prog 46) (kwd := []) FC.ob_eq
    (by kernel_rfl) (fun s => by kernel_rfl) FC.run (by kernel_rfl) (by kernel_rfl) (by kernel_rfl) (by rfl) (by first | assumption | decide +kernel) (by decide +kernel) ⟨rfl, rfl, rfl, rfl, rfl, by decide +kernel⟩ ?hw ?hc
  case hw => w_witness2
  case hc =>
    refine L2.walk_ofE (l := PySem.Challenge.rw_fillchairs_k61_deeds_judged) (n := 63) (k := (FC.Γ 34).lv) (x := "script") (CX := DL.CXw) rfl (by decide) (by kernel_rfl) ⟨rfl, by decide, by decide⟩ ?F (fun _ _ _ _ z => DL.CXw.none z)
    intro w mg fa h Y G hmg0
    obtain ⟨K, KX, c, ct⟩ := Y
    have hmg : mg ("law" : PySem.Str) = some (.ref fa) := by
      rw [← show (HandSHeadRun.topDef FC.R.prog 46).name = ("law" : PySem.Str) by kernel_rfl]
      exact hmg0
    obtain ⟨fd, hb, hF⟩ := FC.facts (P := (PySem.Challenge.rw_fillchairs_k61_deeds_judged).prog) (w := w) KX G c ct hmg
    exact ⟨K, fd, _, KX, hb, fun H a xs hl ho hS => DL.law_sp (fn := FC.Γ 34) rfl ho hS (Nat.le_trans hl (by decide)) fun S => ⟨xs, rfl, fun _ => rfl⟩, fun base XB GB => DL.FnOk.cxw (hF base XB GB)⟩
