import PyProof.Rows.All
import Wide.All
import OpenK.AllK
import Wide.FinOn
import PySem.Challenge.RW_sentintime_k94_briefs_of_texts
import HandS.ForMost
import HandS.Flow
import HandS.TupAny
import HandS.StrMore
import HandS.DictComp
import HandS.IsInst
import HandS.TupLen
import HandS.TupLe
import HandS.Wide
import KE.SortData
import KE.DataMinMax
import KE.DataEq
import KE.DataFind
import KE.DataAny
import KE.DataCmp
import PyProof.LongRange
import HandS.Style
import KE.SortCalls
import KE.KSortTup
import KE.KRevSl
import HandS.SetFor
import HandS.SetKeys
import HandS.Gcd
import HandS.Conv
import HandS.Deep
import HandS.Strs
import PyProof.SumWalkG
import KE.KDictPairs
import HandS.Replace
import HandS.Codes
import PyProof.ListStr
import PyProof.Rows.StrRev
set_option Elab.async false
set_option linter.all false
set_option maxRecDepth 100000
set_option maxHeartbeats 4000000
/-! Pw: data-level rules over HandS: the state of a def as a list of slots with known contents. -/
namespace Pw
open PySem PySem.Spec L2

/-! ### what is known of a value -/
abbrev AP := Addr → Prop
def LAt (K : PySem.W.Frag) (A : AP) (H : Hp) (a : Addr) (xs : List V) : Prop := (¬ A a ∧ Rd H a (.lst xs)) ∨ SqL K (fun _ => none) a xs
/-- a tuple whose object is known to be bare -/
def XT (H : Hp) (a : Addr) (xs : List V) : Prop := ∃ ob : Obj, ob.cls = .type "tuple" ∧ ob.dict = none ∧ H a = some (.frz ob (.tup xs))
/-- .. one of the module's own -/
def KT (K : PySem.W.Frag) (a : Addr) (xs : List V) : Prop := ∃ (o : Obj) (its : Array Value) (n : Nat), K.lookup a = some o ∧ o.cls = .type "tuple" ∧ o.dict = none ∧ o.data = .seq its n ∧ its.size ≤ sizeLine ∧ Vals xs its.toList
def TAt (K : PySem.W.Frag) (A : AP) (H : Hp) (a : Addr) (xs : List V) : Prop := (¬ A a ∧ XT H a xs) ∨ KT K a xs
theorem XT.rd {H : Hp} {a : Addr} {xs : List V} (h : XT H a xs) : Rd H a (.tup xs) := by
  obtain ⟨ob, _, _, e⟩ := h
  exact .inr ⟨ob, e⟩
theorem xt_keep {H H' : Hp} {a : Addr} {xs : List V} (k : ∀ o, H a = some o → H' a = some o) (r : XT H a xs) : XT H' a xs := by
  obtain ⟨ob, h1, h2, e⟩ := r
  exact ⟨ob, h1, h2, k _ e⟩
theorem xt_some {H : Hp} {a : Addr} {xs : List V} (r : XT H a xs) : ∃ o, H a = some o := by
  obtain ⟨ob, h1, h2, e⟩ := r
  exact ⟨_, e⟩
theorem xt_new {H : Hp} {q : Addr} {xs : List V} {ob : Obj} (h : ob.cls = .type "tuple" ∧ ob.dict = none) : XT (upd H q (.frz ob (.tup xs))) q xs := ⟨ob, h.1, h.2, upd_same⟩
theorem rd_none {a : Addr} {u : HO} (h : Rd (fun _ => none) a u) : False := by
  rcases h with h | ⟨o, h⟩ <;> cases h
theorem LAt.sq {K : PySem.W.Frag} {A : AP} {H : Hp} {a : Addr} {xs : List V} (h : LAt K A H a xs) : SqL K H a xs := by
  rcases h with ⟨_, h⟩ | h | h
  · exact .inl h
  · exact (rd_none h).elim
  · exact .inr h
theorem TAt.sq {K : PySem.W.Frag} {A : AP} {H : Hp} {a : Addr} {xs : List V} (h : TAt K A H a xs) : SqT K H a xs := by
  rcases h with h | ⟨o, its, n, h1, h2, _, h4, h5⟩
  · exact .inl h.2.rd
  · exact .inr ⟨o, its, n, h1, h2, h4, h5⟩
theorem LAt.of_sq {K : PySem.W.Frag} {A : AP} {H : Hp} {a : Addr} {xs : List V} (h : SqL K H a xs) (n : ¬ A a) : LAt K A H a xs := by
  rcases h with h | h
  · exact .inl ⟨n, h⟩
  · exact .inr (.inr h)

mutual
/-- the value v stands for the datum d; no list in it may be one of A -/
inductive Rep (K : PySem.W.Frag) (A : AP) (H : Hp) : V → PyData → Prop
  | non : Rep K A H .non .none
  | bl (b : Bool) : Rep K A H (.bl b) (.bool b)
  | int (i : Int) : Rep K A H (.int i) (.int i)
  | str (x : Str) : Rep K A H (.str x) (.str x)
  | lst {a : Addr} {xs : List V} {ds : List PyData} : LAt K A H a xs → Reps K A H xs ds → Rep K A H (.ref a) (.list ds)
  | tup {a : Addr} {xs : List V} {ds : List PyData} : TAt K A H a xs → Reps K A H xs ds → Rep K A H (.ref a) (.tuple ds)
inductive Reps (K : PySem.W.Frag) (A : AP) (H : Hp) : List V → List PyData → Prop
  | nil : Reps K A H [] []
  | cons {v : V} {vs : List V} {d : PyData} {ds : List PyData} : Rep K A H v d → Reps K A H vs ds → Reps K A H (v :: vs) (d :: ds)
end
section
variable {K : PySem.W.Frag} {A A' : AP} {H H' : Hp} {v : V} {vs ws : List V} {d : PyData} {ds es : List PyData}
theorem Reps.length : ∀ {vs : List V} {ds : List PyData}, Reps K A H vs ds → vs.length = ds.length
  | _, _, .nil => rfl
  | _, _, .cons _ t => by rw [List.length_cons, List.length_cons, Reps.length t]
theorem Reps.append : ∀ {vs ws : List V} {ds es : List PyData}, Reps K A H vs ds → Reps K A H ws es → Reps K A H (vs ++ ws) (ds ++ es)
  | _, _, _, _, .nil, s => s
  | _, _, _, _, .cons r t, s => .cons r (Reps.append t s)
theorem Reps.get : ∀ {vs : List V} {ds : List PyData} {i : Nat} {d : PyData}, Reps K A H vs ds → ds[i]? = some d → ∃ v, vs[i]? = some v ∧ Rep K A H v d
  | _, _, _, _, .nil, h => by simp at h
  | _, _, 0, _, .cons r _, h => by
    have e := Option.some.inj h
    subst e
    exact ⟨_, rfl, r⟩
  | _, _, i + 1, _, .cons _ t, h => Reps.get (i := i) t (by simpa using h)
theorem Reps.get' : ∀ {vs : List V} {ds : List PyData} {i : Nat} {v : V}, Reps K A H vs ds → vs[i]? = some v → ∃ d, ds[i]? = some d ∧ Rep K A H v d
  | _, _, _, _, .nil, h => by simp at h
  | _, _, 0, _, .cons r _, h => by
    have e := Option.some.inj h
    subst e
    exact ⟨_, rfl, r⟩
  | _, _, i + 1, _, .cons _ t, h => Reps.get' (i := i) t (by simpa using h)
theorem Reps.set {v : V} {d : PyData} (r : Rep K A H v d) : ∀ {vs : List V} {ds : List PyData} (i : Nat), Reps K A H vs ds → Reps K A H (vs.set i v) (ds.set i d)
  | _, _, _, .nil => .nil
  | _, _, 0, .cons _ t => .cons r t
  | _, _, i + 1, .cons q t => .cons q (Reps.set r i t)
theorem Reps.take : ∀ {vs : List V} {ds : List PyData} (n : Nat), Reps K A H vs ds → Reps K A H (vs.take n) (ds.take n)
  | _, _, 0, _ => .nil
  | _, _, _ + 1, .nil => .nil
  | _, _, n + 1, .cons r t => .cons r (Reps.take n t)
theorem Reps.drop : ∀ {vs : List V} {ds : List PyData} (n : Nat), Reps K A H vs ds → Reps K A H (vs.drop n) (ds.drop n)
  | _, _, 0, r => r
  | _, _, _ + 1, .nil => .nil
  | _, _, n + 1, .cons _ t => Reps.drop n t
theorem Reps.rev : ∀ {vs : List V} {ds : List PyData}, Reps K A H vs ds → Reps K A H vs.reverse ds.reverse
  | _, _, .nil => .nil
  | _, _, .cons r t => by
    rw [List.reverse_cons, List.reverse_cons]
    exact Reps.append (Reps.rev t) (.cons r .nil)
theorem Reps.eraseIdx : ∀ {vs : List V} {ds : List PyData} (i : Nat), Reps K A H vs ds → Reps K A H (vs.eraseIdx i) (ds.eraseIdx i)
  | _, _, _, .nil => .nil
  | _, _, 0, .cons _ t => t
  | _, _, i + 1, .cons q t => .cons q (Reps.eraseIdx i t)
theorem Reps.dropLast : ∀ {vs : List V} {ds : List PyData}, Reps K A H vs ds → Reps K A H vs.dropLast ds.dropLast
  | _, _, .nil => .nil
  | _, _, .cons _ .nil => .nil
  | _, _, .cons r (.cons q t) => .cons r (Reps.dropLast (.cons q t))
theorem Reps.one (r : Rep K A H v d) : Reps K A H [v] [d] := .cons r .nil

/-- how a description may be carried on -/
structure Car (A A' : AP) (H H' : Hp) : Prop where
  l : ∀ a xs, ¬ A a → Rd H a (.lst xs) → ¬ A' a ∧ Rd H' a (.lst xs)
  t : ∀ a xs, ¬ A a → XT H a xs → ¬ A' a ∧ XT H' a xs
theorem LAt.car {a : Addr} {xs : List V} (c : Car A A' H H') (h : LAt K A H a xs) : LAt K A' H' a xs := by
  rcases h with ⟨n, h⟩ | h
  · exact .inl (c.l a xs n h)
  · exact .inr h
theorem TAt.car {a : Addr} {xs : List V} (c : Car A A' H H') (h : TAt K A H a xs) : TAt K A' H' a xs := by
  exact h.imp (fun h => c.t a xs h.1 h.2) id
mutual
theorem Rep.car (c : Car A A' H H') : ∀ {v : V} {d : PyData}, Rep K A H v d → Rep K A' H' v d
  | _, _, .non => .non
  | _, _, .bl b => .bl b
  | _, _, .int i => .int i
  | _, _, .str x => .str x
  | _, _, .lst h r => .lst (h.car c) (Reps.car c r)
  | _, _, .tup h r => .tup (h.car c) (Reps.car c r)
theorem Reps.car (c : Car A A' H H') : ∀ {vs : List V} {ds : List PyData}, Reps K A H vs ds → Reps K A' H' vs ds
  | _, _, .nil => .nil
  | _, _, .cons r t => .cons (Rep.car c r) (Reps.car c t)
end
/-- data without lists -/
def pur : PyData → Bool
  | .none => true
  | .bool _ => true
  | .int _ => true
  | .str _ => true
  | .list _ => false
  | .tuple ds => purs ds
  | .dict _ => false
where purs : List PyData → Bool
  | [] => true
  | d :: ds => pur d && purs ds
abbrev purs := pur.purs
theorem purs_cons {d : PyData} {ds : List PyData} : purs (d :: ds) = (pur d && purs ds) := rfl
theorem purs_all : ∀ {ds : List PyData}, purs ds = ds.all pur
  | [] => rfl
  | d :: ds => by rw [purs_cons, List.all_cons, purs_all]
mutual
theorem Rep.carP (ct : ∀ a xs, ¬ A a → XT H a xs → ¬ A' a ∧ XT H' a xs) : ∀ {v : V} {d : PyData}, Rep K A H v d → pur d = true → Rep K A' H' v d
  | _, _, .non, _ => .non
  | _, _, .bl b, _ => .bl b
  | _, _, .int i, _ => .int i
  | _, _, .str x, _ => .str x
  | _, _, .lst h r, p => by cases p
  | _, _, .tup h r, p => .tup (h.imp (fun h => ct _ _ h.1 h.2) id) (Reps.carP ct r p)
theorem Reps.carP (ct : ∀ a xs, ¬ A a → XT H a xs → ¬ A' a ∧ XT H' a xs) : ∀ {vs : List V} {ds : List PyData}, Reps K A H vs ds → purs ds = true → Reps K A' H' vs ds
  | _, _, .nil, _ => .nil
  | _, _, .cons r t, p => by
    rw [purs_cons, Bool.and_eq_true] at p
    exact .cons (Rep.carP ct r p.1) (Reps.carP ct t p.2)
end
end

/-! ### objects that are one's own, or lent -/
inductive Ob where
  | lst (ds : List PyData)
  | dk (kvs : List (Key × PyData))
  | dt (kvs : List (List Key × PyData))
inductive Sl where
  /-- nothing is known -/
  | un
  | dat (d : PyData)
  /-- an object that no other name of ours stands for -/
  | own (o : Ob)
  /-- an object of the caller's that this def may change: a parameter -/
  | io (o : Ob)
  /-- an object that is read alone -/
  | bor (o : Ob)
  /-- a dict that a loop walks -/
  | lkd (o : Ob)
def RepK {κ : Type} (K : PySem.W.Frag) (A : AP) (H : Hp) (kvs : List (κ × V)) (ds : List (κ × PyData)) : Prop := kvs.map (·.1) = ds.map (·.1) ∧ Reps K A H (kvs.map (·.2)) (ds.map (·.2))
/-- o stands at a (to be changed) -/
def ObAt (K : PySem.W.Frag) (A : AP) (H : Hp) (a : Addr) : Ob → Prop
  | .lst ds => ∃ xs, H a = some (.lst xs) ∧ Reps K A H xs ds
  | .dk ds => ∃ kvs, H a = some (.dK kvs) ∧ RepK K A H kvs ds
  | .dt ds => ∃ kvs, H a = some (.dT kvs) ∧ RepK K A H kvs ds
/-- o stands at a (to be read): O what may change, A what its items must not be -/
def ObRd (K : PySem.W.Frag) (O A : AP) (H : Hp) (a : Addr) : Ob → Prop
  | .lst ds => ∃ xs, LAt K O H a xs ∧ Reps K A H xs ds
  | .dk ds => ∃ kvs, (¬ O a ∧ Rd H a (.dK kvs)) ∧ RepK K A H kvs ds
  | .dt ds => ∃ kvs, (¬ O a ∧ Rd H a (.dT kvs)) ∧ RepK K A H kvs ds
/-- .. and its object is known -/
def ObLk (K : PySem.W.Frag) (O A : AP) (H : Hp) (a : Addr) : Ob → Prop
  | .lst _ => False
  | .dk ds => ∃ kvs ob, ¬ O a ∧ H a = some (.frz ob (.dK kvs)) ∧ RepK K A H kvs ds
  | .dt ds => ∃ kvs ob, ¬ O a ∧ H a = some (.frz ob (.dT kvs)) ∧ RepK K A H kvs ds
section
variable {K : PySem.W.Frag} {A A' B : AP} {H H' : Hp} {a p : Addr} {o : Ob} {S S' : List Sl} {σ σ' : L2.St}
theorem ObAt.mut (h : ObAt K A H a o) : Mut (H a) := by
  cases o with
  | lst ds => obtain ⟨xs, e, _⟩ := h; rw [e]; trivial
  | dk ds => obtain ⟨xs, e, _⟩ := h; rw [e]; trivial
  | dt ds => obtain ⟨xs, e, _⟩ := h; rw [e]; trivial
theorem mut_some {a : Addr} (h : Mut (H a)) : ∃ o, H a = some o := by
  cases e : H a with
  | none => rw [e] at h; cases h
  | some o => exact ⟨o, rfl⟩
theorem mut_not_rd_tup {a : Addr} {xs : List V} (h : Mut (H a)) (r : Rd H a (.tup xs)) : False := by
  rcases r with r | ⟨o, r⟩ <;> (rw [r] at h; cases h)

def own? : Sl → Bool
  | .own _ => true
  | .io _ => true
  | _ => false
def io? : Sl → Bool
  | .io _ => true
  | _ => false
def lent? : Sl → Bool
  | .bor _ => true
  | .lkd _ => true
  | _ => false
/-- the addresses that the def may change -/
def OwnA (S : List Sl) (σ : L2.St) : AP := fun a => ∃ (i : Nat) (s : Sl), S[i]? = some s ∧ own? s = true ∧ σ[i]? = some (some (V.ref a))
def Av (S : List Sl) (σ : L2.St) (B : AP) : AP := fun a => OwnA S σ a ∨ B a
def SlOk (K : PySem.W.Frag) (O A : AP) (H : Hp) (x : Option (Option V)) : Sl → Prop
  | .un => True
  | .dat d => ∃ v, x = some (some v) ∧ Rep K A H v d
  | .own o => ∃ a, x = some (some (.ref a)) ∧ ObAt K A H a o
  | .io o => ∃ a, x = some (some (.ref a)) ∧ ObAt K A H a o
  | .bor o => ∃ a, x = some (some (.ref a)) ∧ ObRd K O A H a o
  | .lkd o => ∃ a, x = some (some (.ref a)) ∧ ObLk K O A H a o
structure Holds (K : PySem.W.Frag) (B : AP) (S : List Sl) (σ : L2.St) (H : Hp) : Prop where
  len : S.length = σ.length
  sl : ∀ (i : Nat) (s : Sl), S[i]? = some s → SlOk K (OwnA S σ) (Av S σ B) H σ[i]? s
  inj : ∀ (i j : Nat) (s t : Sl) (a : Addr), S[i]? = some s → S[j]? = some t → own? s = true → own? t = true → σ[i]? = some (some (V.ref a)) → σ[j]? = some (some (V.ref a)) → i = j
  bm : ∀ a, B a → Mut (H a)
/-- from one state to a later one -/
structure Rel (S : List Sl) (σ : L2.St) (H : Hp) (S' : List Sl) (σ' : L2.St) (H' : Hp) : Prop where
  keep : ∀ a o, H a = some o → ¬ OwnA S σ a → H' a = some o
  own : ∀ a, OwnA S' σ' a → OwnA S σ a ∨ H a = none
  ios : ∀ (i : Nat) (o : Ob), S[i]? = some (Sl.io o) → σ'[i]? = σ[i]? ∧ ∃ o', S'[i]? = some (Sl.io o')
  len : S'.length = S.length
  iob : ∀ (i : Nat) (o' : Ob), S'[i]? = some (Sl.io o') → ∃ o, S[i]? = some (Sl.io o)
  fix : ∀ (i : Nat) (s : Sl), S'[i]? = some s → lent? s = true → S[i]? = some s ∧ σ'[i]? = σ[i]?
  dom : ∀ a o, H a = some o → ∃ o', H' a = some o'
theorem Rel.refl : Rel S σ H S σ H := ⟨fun _ _ e _ => e, fun _ h => .inl h, fun _ o e => ⟨rfl, o, e⟩, rfl, fun _ o e => ⟨o, e⟩, fun _ s e _ => ⟨e, rfl⟩, fun _ o e => ⟨o, e⟩⟩
theorem Rel.trans {S1 S2 S3 : List Sl} {σ1 σ2 σ3 : L2.St} {H1 H2 H3 : Hp} (a : Rel S1 σ1 H1 S2 σ2 H2) (b : Rel S2 σ2 H2 S3 σ3 H3) : Rel S1 σ1 H1 S3 σ3 H3 := by
  have free : ∀ x, H2 x = none → OwnA S1 σ1 x ∨ H1 x = none := fun x e => by
    cases q : H1 x with
    | none => exact .inr rfl
    | some o =>
      by_cases ho : OwnA S1 σ1 x
      · exact .inl ho
      · rw [a.keep x o q ho] at e; cases e
  refine ⟨fun x o e n => ?_, fun x h => ?_, fun i o e => ?_, b.len.trans a.len, fun i o' e => ?_, fun i s e hs => ?_, fun x o e => ?_⟩
  · refine b.keep x o (a.keep x o e n) fun h => ?_
    rcases a.own x h with q | q
    · exact n q
    · rw [e] at q; cases q
  · rcases b.own x h with q | q
    · exact a.own x q
    · exact free x q
  · obtain ⟨e1, o1, e2⟩ := a.ios i o e
    obtain ⟨e3, o3, e4⟩ := b.ios i o1 e2
    exact ⟨e3.trans e1, o3, e4⟩
  · obtain ⟨o1, e1⟩ := b.iob i o' e
    exact a.iob i o1 e1
  · obtain ⟨e1, e2⟩ := b.fix i s e hs
    obtain ⟨e3, e4⟩ := a.fix i s e1 hs
    exact ⟨e3, e2.trans e4⟩
  · obtain ⟨o1, e1⟩ := a.dom x o e
    exact b.dom x o1 e1
theorem Holds.ownMut (h : Holds K B S σ H) {a : Addr} (q : OwnA S σ a) : Mut (H a) := by
  obtain ⟨i, s, e, hs, er⟩ := q
  have := h.sl i s e
  cases s with
  | own o =>
    obtain ⟨b, e2, q⟩ := this
    rw [er] at e2
    cases e2
    exact q.mut
  | io o =>
    obtain ⟨b, e2, q⟩ := this
    rw [er] at e2
    cases e2
    exact q.mut
  | un => cases hs
  | dat _ => cases hs
  | bor _ => cases hs
  | lkd _ => cases hs
theorem Holds.avMut (h : Holds K B S σ H) {a : Addr} (q : Av S σ B a) : Mut (H a) := q.elim h.ownMut (h.bm a)
theorem rd_keep {u : HO} (k : ∀ o, H a = some o → H' a = some o) (r : Rd H a u) : Rd H' a u := by
  rcases r with r | ⟨o, r⟩
  · exact .inl (k _ r)
  · exact .inr ⟨o, k _ r⟩
theorem rd_some {u : HO} (r : Rd H a u) : ∃ o, H a = some o := by
  rcases r with r | ⟨o, r⟩
  · exact ⟨_, r⟩
  · exact ⟨_, r⟩
/-- descriptions are carried from a state to a later one -/
theorem Rel.car (r : Rel S σ H S' σ' H') : Car (Av S σ B) (Av S' σ' B) H H' := by
  have no : ∀ a o, ¬ Av S σ B a → H a = some o → ¬ Av S' σ' B a := fun a o n e h => by
    rcases h with h | h
    · rcases r.own a h with q | q
      · exact n (.inl q)
      · rw [e] at q; cases q
    · exact n (.inr h)
  refine ⟨fun a xs n h => ?_, fun a xs n h => ?_⟩
  · obtain ⟨o, e⟩ := rd_some h
    exact ⟨no a o n e, rd_keep (fun o e => r.keep a o e fun q => n (.inl q)) h⟩
  · obtain ⟨o, e⟩ := xt_some h
    exact ⟨no a o n e, xt_keep (fun o e => r.keep a o e fun q => n (.inl q)) h⟩
theorem ObRd.car {O O' A A' : AP} (c : Car A A' H H') (cd : ∀ a u, ¬ O a → Rd H a u → ¬ O' a ∧ Rd H' a u) (h : ObRd K O A H a o) : ObRd K O' A' H' a o := by
  cases o with
  | lst ds =>
    obtain ⟨xs, e, r⟩ := h
    refine ⟨xs, ?_, r.car c⟩
    rcases e with ⟨n, e⟩ | e
    · exact .inl (cd _ _ n e)
    · exact .inr e
  | dk ds => obtain ⟨xs, ⟨n, e⟩, k, r⟩ := h; exact ⟨xs, cd _ _ n e, k, r.car c⟩
  | dt ds => obtain ⟨xs, ⟨n, e⟩, k, r⟩ := h; exact ⟨xs, cd _ _ n e, k, r.car c⟩
theorem Rel.ownKeep (r : Rel S σ H S' σ' H') {a : Addr} {u : HO} (n : ¬ OwnA S σ a) (e : H a = some u) : ¬ OwnA S' σ' a ∧ H' a = some u :=
  ⟨fun q => (r.own a q).elim n (fun z => by rw [e] at z; cases z), r.keep a u e n⟩
theorem Rel.cdO (r : Rel S σ H S' σ' H') : ∀ a u, ¬ OwnA S σ a → Rd H a u → ¬ OwnA S' σ' a ∧ Rd H' a u := fun a u n h => by
  rcases h with h | ⟨ob, h⟩
  · exact ⟨(r.ownKeep n h).1, .inl (r.ownKeep n h).2⟩
  · exact ⟨(r.ownKeep n h).1, .inr ⟨ob, (r.ownKeep n h).2⟩⟩
theorem ObLk.car {O O' A A' : AP} (c : Car A A' H H') (cd : ∀ a u, ¬ O a → H a = some u → ¬ O' a ∧ H' a = some u) (h : ObLk K O A H a o) : ObLk K O' A' H' a o := by
  cases o with
  | lst ds => cases h
  | dk ds => obtain ⟨xs, ob, n, e, k, r⟩ := h; exact ⟨xs, ob, (cd _ _ n e).1, (cd _ _ n e).2, k, r.car c⟩
  | dt ds => obtain ⟨xs, ob, n, e, k, r⟩ := h; exact ⟨xs, ob, (cd _ _ n e).1, (cd _ _ n e).2, k, r.car c⟩
theorem Rel.cd (r : Rel S σ H S' σ' H') : ∀ a u, ¬ Av S σ B a → Rd H a u → ¬ Av S' σ' B a ∧ Rd H' a u := fun a u n h => by
  obtain ⟨o, e⟩ := rd_some h
  refine ⟨fun q => ?_, rd_keep (fun o e => r.keep a o e fun q => n (.inl q)) h⟩
  rcases q with q | q
  · rcases r.own a q with z | z
    · exact n (.inl z)
    · rw [e] at z; cases z
  · exact n (.inr q)

/-! ### states made out of states -/
theorem ObAt.car (h : ObAt K A H a o) (c : Car A A' H H') (k : ∀ u, H a = some u → H' a = some u) : ObAt K A' H' a o := by
  cases o with
  | lst ds => obtain ⟨xs, e, r⟩ := h; exact ⟨xs, k _ e, r.car c⟩
  | dk ds => obtain ⟨xs, e, q, r⟩ := h; exact ⟨xs, k _ e, q, r.car c⟩
  | dt ds => obtain ⟨xs, e, q, r⟩ := h; exact ⟨xs, k _ e, q, r.car c⟩
theorem SlOk.car {O O' : AP} {x : Option (Option V)} {s : Sl} (h : SlOk K O A H x s) (c : Car A A' H H') (cd : ∀ a u, ¬ O a → H a = some u → ¬ O' a ∧ H' a = some u) (ow : own? s = true → ∀ a, x = some (some (V.ref a)) → ∀ u, H a = some u → H' a = some u) : SlOk K O' A' H' x s := by
  cases s with
  | un => trivial
  | dat d => obtain ⟨v, e, r⟩ := h; exact ⟨v, e, r.car c⟩
  | own o => obtain ⟨a, e, r⟩ := h; exact ⟨a, e, r.car c (ow rfl a e)⟩
  | io o => obtain ⟨a, e, r⟩ := h; exact ⟨a, e, r.car c (ow rfl a e)⟩
  | bor o =>
    obtain ⟨a, e, r⟩ := h
    refine ⟨a, e, r.car c fun a u n q => ?_⟩
    rcases q with q | ⟨ob, q⟩
    · exact ⟨(cd _ _ n q).1, .inl (cd _ _ n q).2⟩
    · exact ⟨(cd _ _ n q).1, .inr ⟨ob, (cd _ _ n q).2⟩⟩
  | lkd o => obtain ⟨a, e, r⟩ := h; exact ⟨a, e, r.car c cd⟩
/-- all that stood stands; what is avoided now was avoided or is new -/
theorem Holds.to {B' : AP} (h : Holds K B S σ H) (k : ∀ a o, H a = some o → H' a = some o) (av : ∀ a, B' a → B a ∨ H a = none) (bm : ∀ a, B' a → Mut (H' a)) : Holds K B' S σ H' := by
  have c : Car (Av S σ B) (Av S σ B') H H' := by
    have no : ∀ a o, ¬ Av S σ B a → H a = some o → ¬ Av S σ B' a := fun a o n e q => by
      rcases q with q | q
      · exact n (.inl q)
      · rcases av a q with z | z
        · exact n (.inr z)
        · rw [e] at z; cases z
    refine ⟨fun a xs n q => ?_, fun a xs n q => ?_⟩ <;> (obtain ⟨o, e⟩ := (by first | exact rd_some q | exact xt_some q); exact ⟨no a o n e, by first | exact rd_keep (fun o e => k a o e) q | exact xt_keep (fun o e => k a o e) q⟩)
  exact ⟨h.len, fun i s e => (h.sl i s e).car c (fun a u n e => ⟨n, k a u e⟩) fun _ a _ u e => k a u e, h.inj, bm⟩
theorem Holds.same (h : Holds K B S σ H) (k : ∀ a o, H a = some o → H' a = some o) : Holds K B S σ H' :=
  h.to k (fun _ q => .inl q) fun a q => by
    obtain ⟨o, e⟩ := mut_some (h.bm a q)
    rw [k a o e, ← e]
    exact h.bm a q
theorem Rel.same (k : ∀ a o, H a = some o → H' a = some o) : Rel S σ H S σ H' := ⟨fun a o e _ => k a o e, fun _ q => .inl q, fun _ o e => ⟨rfl, o, e⟩, rfl, fun _ o e => ⟨o, e⟩, fun _ s e _ => ⟨e, rfl⟩, fun a o e => ⟨o, k a o e⟩⟩
theorem Rel.free (r : Rel S σ H S' σ' H') (hp : H' p = none) : H p = none := by
  cases q : H p with
  | none => rfl
  | some o =>
    obtain ⟨o', e⟩ := r.dom p o q
    rw [hp] at e; cases e
theorem upd_keep {u : HO} (hp : H p = none) : ∀ a o, H a = some o → upd H p u a = some o := fun a o e => by
  rw [upd_ne (ne_of_none e hp)]
  exact e
theorem Holds.free (h : Holds K B S σ H) (hp : H p = none) : ¬ OwnA S σ p := fun q => by
  obtain ⟨o, e⟩ := mut_some (h.ownMut q)
  rw [hp] at e; cases e
theorem Holds.freeB (h : Holds K B S σ H) (hp : H p = none) : ¬ B p := fun q => by
  obtain ⟨o, e⟩ := mut_some (h.bm p q)
  rw [hp] at e; cases e
theorem Rep.same {v : V} {d : PyData} (h : Rep K A H v d) (k : ∀ a o, H a = some o → H' a = some o) : Rep K A H' v d := h.car ⟨fun _ _ n q => ⟨n, rd_keep (fun o e => k _ o e) q⟩, fun _ _ n q => ⟨n, xt_keep (fun o e => k _ o e) q⟩⟩
theorem Reps.same {v : List V} {d : List PyData} (h : Reps K A H v d) (k : ∀ a o, H a = some o → H' a = some o) : Reps K A H' v d := h.car ⟨fun _ _ n q => ⟨n, rd_keep (fun o e => k _ o e) q⟩, fun _ _ n q => ⟨n, xt_keep (fun o e => k _ o e) q⟩⟩
/-- a new object is avoided by all that stood -/
theorem Reps.new {v : List V} {d : List PyData} (h : Reps K (Av S σ B) H v d) (k : ∀ a o, H a = some o → H' a = some o) (hp : H p = none) : Reps K (Av S σ fun a => B a ∨ a = p) H' v d := by
  have no : ∀ a o, ¬ Av S σ B a → H a = some o → ¬ Av S σ (fun a => B a ∨ a = p) a := fun a o n e q => by
    rcases q with q | q | q
    · exact n (.inl q)
    · exact n (.inr q)
    · rw [q, hp] at e; cases e
  refine h.car ⟨fun a xs n q => ?_, fun a xs n q => ?_⟩ <;> (obtain ⟨o, e⟩ := (by first | exact rd_some q | exact xt_some q); exact ⟨no a o n e, by first | exact rd_keep (fun o e => k a o e) q | exact xt_keep (fun o e => k a o e) q⟩)

theorem get_set {α : Type} {l : List α} {i j : Nat} {x s : α} (h : (l.set i x)[j]? = some s) : (i = j ∧ s = x ∧ i < l.length) ∨ (i ≠ j ∧ l[j]? = some s) := by
  by_cases e : i = j
  · subst e
    by_cases hl : i < l.length
    · rw [List.getElem?_set_self hl] at h
      exact .inl ⟨rfl, (Option.some.inj h).symm, hl⟩
    · rw [List.getElem?_eq_none (by rw [List.length_set]; omega)] at h
      cases h
  · rw [List.getElem?_set_ne e] at h
    exact .inr ⟨e, h⟩
theorem ownA_set {i : Nat} {s : Sl} {x : Option V} {a : Addr} (h : OwnA (S.set i s) (σ.set i x) a) : (own? s = true ∧ x = some (V.ref a)) ∨ OwnA S σ a := by
  obtain ⟨j, t, e, ht, er⟩ := h
  rcases get_set e with ⟨rfl, rfl, hl⟩ | ⟨ne, e⟩
  · rcases get_set er with ⟨_, e2, _⟩ | ⟨ne, _⟩
    · exact .inl ⟨ht, e2.symm⟩
    · exact absurd rfl ne
  · rw [List.getElem?_set_ne ne] at er
    exact .inr ⟨j, t, e, ht, er⟩
/-- a datum is stored at a slot -/
theorem Holds.setD {i : Nat} {v : V} {d : PyData} (h : Holds K B S σ H) (r : Rep K (Av S σ B) H v d) : Holds K B (S.set i (.dat d)) (σ.set i (some v)) H := by
  have sub : ∀ a, OwnA (S.set i (.dat d)) (σ.set i (some v)) a → OwnA S σ a := fun a q => (ownA_set q).elim (fun z => by cases z.1) id
  have subA : ∀ a, Av (S.set i (.dat d)) (σ.set i (some v)) B a → Av S σ B a := fun a q => q.imp (sub a) id
  have c : Car (Av S σ B) (Av (S.set i (.dat d)) (σ.set i (some v)) B) H H := ⟨fun a xs n q => ⟨fun z => n (subA a z), q⟩, fun a xs n q => ⟨fun z => n (subA a z), q⟩⟩
  refine ⟨by rw [List.length_set, List.length_set]; exact h.len, fun j s e => ?_, fun j k s t a e1 e2 o1 o2 r1 r2 => ?_, h.bm⟩
  · rcases get_set e with ⟨rfl, rfl, hl⟩ | ⟨ne, e⟩
    · refine ⟨v, ?_, r.car c⟩
      rw [List.getElem?_set_self (by rw [← h.len]; exact hl)]
    · rw [List.getElem?_set_ne ne]
      exact (h.sl j s e).car c (fun a u n e => ⟨fun z => n (sub a z), e⟩) fun _ _ _ _ e => e
  · rcases get_set e1 with ⟨rfl, rfl, _⟩ | ⟨ne1, e1⟩
    · cases o1
    · rcases get_set e2 with ⟨rfl, rfl, _⟩ | ⟨ne2, e2⟩
      · cases o2
      · rw [List.getElem?_set_ne ne1] at r1
        rw [List.getElem?_set_ne ne2] at r2
        exact h.inj j k s t a e1 e2 o1 o2 r1 r2
theorem Rel.set {i : Nat} {s : Sl} {x : Option V} (h : ∀ o, S[i]? ≠ some (Sl.io o)) (hs : io? s = false) (hl : lent? s = false) (hn : own? s = true → ∀ a, x = some (V.ref a) → OwnA S σ a ∨ H a = none) : Rel S σ H (S.set i s) (σ.set i x) H := by
  refine ⟨fun a o e _ => e, fun a q => ?_, fun j o e => ?_, List.length_set, fun j o e => ?_, fun j t e ht => ?_, fun _ o e => ⟨o, e⟩⟩
  · rcases ownA_set q with ⟨q1, q2⟩ | q
    · exact hn q1 a q2
    · exact .inl q
  · have ne : i ≠ j := fun z => by subst z; exact h o e
    exact ⟨List.getElem?_set_ne ne, o, by rw [List.getElem?_set_ne ne]; exact e⟩
  · rcases get_set e with ⟨rfl, e2, _⟩ | ⟨ne, e⟩
    · rw [← e2] at hs; cases hs
    · exact ⟨o, e⟩
  · rcases get_set e with ⟨rfl, e2, _⟩ | ⟨ne, e⟩
    · rw [e2, hl] at ht; cases ht
    · exact ⟨e, List.getElem?_set_ne ne⟩
/-- what was lent stands apart from a new object -/
theorem Rel.lentP {S0 : List Sl} {σ0 : L2.St} {H0 : Hp} (r : Rel S0 σ0 H0 S σ H) (h0 : Holds K B S0 σ0 H0) (hp : H0 p = none) {j : Nat} {s : Sl} (e : S[j]? = some s) (hl : lent? s = true) :
    SlOk K (fun a => OwnA S σ a ∨ a = p) (Av S σ fun a => B a ∨ a = p) H σ[j]? s := by
  obtain ⟨e0, eσ⟩ := r.fix j s e hl
  rw [eσ]
  have no : ∀ a o, ¬ OwnA S0 σ0 a → H0 a = some o → ¬ (OwnA S σ a ∨ a = p) := fun a o n e q => by
    rcases q with q | q
    · exact (r.ownKeep n e).1 q
    · rw [q, hp] at e; cases e
  have noA : ∀ a o, ¬ Av S0 σ0 B a → H0 a = some o → ¬ Av S σ (fun a => B a ∨ a = p) a := fun a o n e q => by
    rcases q with q | q | q
    · exact (r.ownKeep (fun z => n (.inl z)) e).1 q
    · exact n (.inr q)
    · rw [q, hp] at e; cases e
  refine (h0.sl j s e0).car ⟨fun a xs n q => ?_, fun a xs n q => ?_⟩ (fun a u n e => ⟨no a u n e, (r.ownKeep n e).2⟩) (fun ow => absurd ow ?_)
  · obtain ⟨o, e⟩ := rd_some q
    exact ⟨noA a o n e, (r.cdO a _ (fun z => n (.inl z)) q).2⟩
  · obtain ⟨o, e⟩ := xt_some q
    exact ⟨noA a o n e, xt_keep (fun o e => (r.ownKeep (fun z => n (.inl z)) e).2) q⟩
  · cases s <;> first | exact Bool.false_ne_true | cases hl
/-- a new object is stored at a slot -/
theorem Holds.setO {i : Nat} (h : Holds K (fun a => B a ∨ a = p) S σ H) (r : ObAt K (Av S σ fun a => B a ∨ a = p) H p o) (n : ¬ OwnA S σ p)
    (hb : ∀ (j : Nat) (s : Sl), S[j]? = some s → lent? s = true → SlOk K (fun a => OwnA S σ a ∨ a = p) (Av S σ fun a => B a ∨ a = p) H σ[j]? s) : Holds K B (S.set i (.own o)) (σ.set i (some (.ref p))) H := by
  have sub : ∀ a, OwnA (S.set i (.own o)) (σ.set i (some (.ref p))) a → OwnA S σ a ∨ a = p := fun a q => (ownA_set q).elim (fun z => .inr (by cases z.2; rfl)) .inl
  have subA : ∀ a, Av (S.set i (.own o)) (σ.set i (some (.ref p))) B a → Av S σ (fun a => B a ∨ a = p) a := fun a q => by
    rcases q with q | q
    · rcases sub a q with z | z
      · exact .inl z
      · exact .inr (.inr z)
    · exact .inr (.inl q)
  have c : Car (Av S σ fun a => B a ∨ a = p) (Av (S.set i (.own o)) (σ.set i (some (.ref p))) B) H H := ⟨fun a xs n q => ⟨fun z => n (subA a z), q⟩, fun a xs n q => ⟨fun z => n (subA a z), q⟩⟩
  have own_i : ∀ {j : Nat} {s : Sl}, S[j]? = some s → own? s = true → σ[j]? ≠ some (some (V.ref p)) := fun {j s} e o q => n ⟨j, s, e, o, q⟩
  refine ⟨by rw [List.length_set, List.length_set]; exact h.len, fun j s e => ?_, fun j k s t a e1 e2 o1 o2 r1 r2 => ?_, fun a q => h.bm a (.inl q)⟩
  · rcases get_set e with ⟨rfl, rfl, hl⟩ | ⟨ne, e⟩
    · refine ⟨p, ?_, r.car c fun _ e => e⟩
      rw [List.getElem?_set_self (by rw [← h.len]; exact hl)]
    · rw [List.getElem?_set_ne ne]
      have q := h.sl j s e
      cases s with
      | un => trivial
      | dat d => obtain ⟨v, e, r⟩ := q; exact ⟨v, e, r.car c⟩
      | own o => obtain ⟨a, e, r⟩ := q; exact ⟨a, e, r.car c fun _ e => e⟩
      | io o => obtain ⟨a, e, r⟩ := q; exact ⟨a, e, r.car c fun _ e => e⟩
      | bor o => exact (hb j _ e rfl).car c (fun a u n e => ⟨fun z => n (sub a z), e⟩) fun _ _ _ _ e => e
      | lkd o => exact (hb j _ e rfl).car c (fun a u n e => ⟨fun z => n (sub a z), e⟩) fun _ _ _ _ e => e
  · rcases get_set e1 with ⟨rfl, rfl, _⟩ | ⟨ne1, e1⟩
    · rcases get_set e2 with ⟨rfl, rfl, _⟩ | ⟨ne2, e2⟩
      · rfl
      · rw [List.getElem?_set_self (by rw [← h.len]; assumption)] at r1
        rw [List.getElem?_set_ne ne2] at r2
        cases r1
        exact absurd r2 (own_i e2 o2)
    · rw [List.getElem?_set_ne ne1] at r1
      rcases get_set e2 with ⟨rfl, rfl, _⟩ | ⟨ne2, e2⟩
      · rw [List.getElem?_set_self (by rw [← h.len]; assumption)] at r2
        cases r2
        exact absurd r1 (own_i e1 o1)
      · rw [List.getElem?_set_ne ne2] at r2
        exact h.inj j k s t a e1 e2 o1 o2 r1 r2
end
end Pw
/-! PwTupX: new tuples, with what is known of their objects. -/
namespace Pw
open PySem PySem.Spec L2
section
variable {X : Cx} {pins : List (Addr × Obj)} {σ : L2.St} {H : Hp} {s : Shared} {Q : VK} {es : List Expr} {t : TA} {pos : Pos}
/-- what is asked of the next new tuple -/
def NewT (H : Hp) (xs : List V) (Q : VK) : Prop := ∀ p ob, H p = none → ob.cls = .type "tuple" ∧ ob.dict = none → Q (.ref p) (upd H p (.frz ob (.tup xs)))
theorem ep_newT {xs : List V} {its : List Value} (I : Inv X pins σ H s) (r : Vals xs its) (z : xs.length ≤ sizeLine) (q : NewT H xs Q) : EP X pins σ Q (.ref s.heap.objs.size) { s with heap := s.heap.push { cls := .type "tuple", data := .seq its.toArray } } :=
  ⟨.ref s.heap.objs.size, _, I.laid (t' := s.toks) (o := .frz { cls := .type "tuple", data := .seq its.toArray } (.tup xs)) (fun b ob e => Heap.get?_push_of_some _ e) (Nat.le_refl _) ⟨Heap.get?_push_size _ rfl, z, its, r, PyProof.Rows.IsTup.new _ _⟩, rfl, q _ _ (I.hok.fresh (Nat.le_refl _)) ⟨rfl, rfl⟩⟩
def tTupX (t : TA) : TE := fun σ H Q => t σ H fun xs H1 => xs.length ≤ sizeLine ∧ NewT H1 xs Q
theorem pe_tupX {x1} (h : PA X es t) : PE X (.Tuple es x1 pos) (tTupX t) := ⟨fun pins s σ H Q I hq =>
  wpAny_Tuple_spliced (thn (h.run pos pins s σ H _ I hq) fun us t1 ⟨xs, H1, J, r, z, q⟩ => ⟨by rw [← r.length]; exact z, ep_newT J r z q⟩)⟩
/-- t[lo:hi] -/
def rSlX (K : PySem.W.Frag) : V → Option Int → Option Int → Hp → VK → Prop := fun x lo hi H Q => ∃ a xs, x = .ref a ∧ SqT K H a xs ∧
  (HT.sIx xs.length 0 lo = 0 ∧ HT.sIx xs.length xs.length hi = xs.length → Q (.ref a) H) ∧ (¬ (HT.sIx xs.length 0 lo = 0 ∧ HT.sIx xs.length xs.length hi = xs.length) → NewT H (cutV xs lo hi) Q)
theorem sl_tupX : SlR X (rSlX X.K) := by
  intro pins s σ H x v vl vu lo hi sl Q I rx hs pl pu ⟨a, xs, ex, hx, q1, q2⟩
  subst ex
  by_cases hw : HT.sIx xs.length 0 lo = 0 ∧ HT.sIx xs.length xs.length hi = xs.length
  · exact sl_tupA pins s σ H _ v vl vu lo hi sl Q I rx hs pl pu ⟨a, xs, rfl, hx, q1, fun n => absurd hw n⟩
  · cases rx
    obtain ⟨its, r, ht, hz⟩ := I.tuple hx
    have el : its.toArray.size = xs.length := by rw [List.size_toArray, r.length]
    refine ⟨"tuple", _, PyProof.Rows.slot_tuple_getitem.lookup, ht.typeIs, HT.getItem_tuple_cut ht hs pl pu (by rw [el]; exact hw) ?_ (by rw [el]; exact hz)⟩
    rw [el]
    exact ep_newT I ((r.drop (HT.sIx xs.length 0 lo)).take (HT.sIx xs.length xs.length hi - HT.sIx xs.length 0 lo)) (Nat.le_trans (cutV_length xs lo hi) hz) (q2 hw)
/-- t + u -/
def rCatX (K : PySem.W.Frag) : R2 := fun x y H Q => ∃ a b xs ys, x = .ref a ∧ y = .ref b ∧ SqT K H a xs ∧ SqT K H b ys ∧ xs.length + ys.length ≤ sizeLine ∧
  (xs = [] → Q (.ref b) H) ∧ (xs ≠ [] → ys = [] → Q (.ref a) H) ∧ (xs ≠ [] → ys ≠ [] → NewT H (xs ++ ys) Q)
theorem op_catX : OpR X (binaryOp .Add) (rCatX X.K) := by
  intro pins s σ H x y v u Q I rx ry ⟨a, b, xs, ys, ea, eb, ha, hb, hz, q0, q1, q2⟩
  subst ea eb
  by_cases hx : xs = []
  · exact op_catA pins s σ H _ _ v u Q I rx ry ⟨a, b, xs, ys, rfl, rfl, ha, hb, hz, q0, q1, fun n => absurd hx n⟩
  · cases rx; cases ry
    obtain ⟨its, r1, p1, _⟩ := I.tuple ha
    obtain ⟨itu, r2, p2, _⟩ := I.tuple hb
    refine HT.cat_tup p1 p2 (fun z => hx (r1.nil_iff.mp z)) (fun z => ⟨.ref a, H, I, rfl, q1 hx (r2.nil_iff.mp z)⟩) (fun z => ep_newT I (r1.append r2) (by rw [List.length_append]; exact hz) (q2 hx fun w => z (r2.nil_iff.mpr w))) (by rw [← r1.length, ← r2.length]; exact hz)
/-- tuple(xs), xs a list -/
theorem call_tupleX : CallR X (.type "tuple") (fun xs H Q => ∃ p ys, xs = [.ref p] ∧ SqL X.K H p ys ∧ NewT H ys Q) := by
  intro pins s σ H xs us Q I r ⟨p, ys, ex, hq, q⟩
  subst ex
  obtain ⟨u, rfl, rx⟩ := vals1 r
  cases rx
  obtain ⟨its, r', pl, hz⟩ := I.list hq
  have hlen := r'.length
  refine call_tuple_list pl.isList (fun h' kp => ?_) (by simp only [List.size_toArray] <;> omega)
  have J : Inv X pins σ H { s with heap := h' } := I.kept (t' := s.toks) kp
  exact ep_newT J r' hz q
end
end Pw
namespace Pw
open PySem PySem.Spec L2

/-! ### what is known of the code's surroundings -/
inductive Rt where
  | dat (d : PyData)
  | own (o : Ob)
/-- a def's promise: parameters' slots, the result, the parameters' slots behind it -/
abbrev Contract := List Sl → Rt → List Sl → Prop
def Ob.pur : Ob → Bool
  | .lst ds => purs ds
  | .dk ds => purs (ds.map (·.2))
  | .dt ds => purs (ds.map (·.2))
def parSl : Sl → Bool
  | .dat _ => true
  | .bor _ => true
  | .io _ => true
  | _ => false
def outSl : Sl → Bool
  | .un => true
  | .io o => o.pur
  | _ => false
def RtOk (K : PySem.W.Frag) (H H' : Hp) (v : V) : Rt → Prop
  | .dat d => pur d = true ∧ Rep K (fun _ => False) H' v d
  | .own o => ∃ p, v = .ref p ∧ H p = none ∧ o.pur = true ∧ ObAt K (fun _ => False) H' p o
structure After (K : PySem.W.Frag) (S : List Sl) (vs : List V) (H : Hp) (v : V) (H' : Hp) (r : Rt) (S' : List Sl) : Prop where
  keep : ∀ a o, H a = some o → ¬ OwnA S (vs.map some) a → H' a = some o
  ios : Holds K (fun _ => False) S' (vs.map some) H'
  outs : ∀ s ∈ S', outSl s = true
  same : ∀ i : Nat, (∃ o, S[i]? = some (Sl.io o)) ↔ ∃ o, S'[i]? = some (Sl.io o)
  res : RtOk K H H' v r
def spC (K : PySem.W.Frag) (n : Nat) (C : Contract) : Sp := fun vs H Q _ => ∃ S r S', C S r S' ∧ S.length = n ∧ S'.length = n ∧ (∀ s ∈ S, parSl s = true) ∧ Holds K (fun _ => False) S (vs.map some) H ∧
  ∀ v H', After K S vs H v H' r S' → Q v H'
structure Cxt where
  N : List Str
  sc : Scope
  tab : List (Str × Nat)
  loc : List Str
  fnc : Str → Bool
  blt : List Str
  fns : List (Str × Nat × Contract)
  /-- names seen in blocks within alone -/
  hid : List Str := []
  hfns : List (Str × Nat × Contract) := []
  /-- the module's constants -/
  cns : List (Str × PyData) := []
  /-- names of other modules' built-in functions -/
  bfs : List (Str × String) := []
def visC (sc : Scope) (x : Str) : Bool := match sc.names.lookup x with
  | some .local => true
  | some .cell => true
  | some .free => true
  | _ => false
def locC (sc : Scope) (f : Str → Bool) (x : Str) : Bool := match sc.names.lookup x with
  | some .local => true
  | some .cell => f x
  | _ => false
def glC (sc : Scope) (x : Str) : Bool := match sc.names.lookup x with
  | some .globalImplicit => true
  | _ => false
def Cxt.chk (G : Cxt) : Bool := decide G.N.Nodup && (G.tab.all fun p => decide (G.N[p.2]? = some p.1) && visC G.sc p.1 && !(p.1 == ("__debug__" : Str)) && !(p.1 == ("__classdict__" : Str))) && (G.loc.all fun x => locC G.sc G.fnc x) && (G.blt.all fun x => glC G.sc x && !(x == ("__debug__" : Str)) && !(x == ("__name__" : Str))) &&
  (G.fns.all fun p => glC G.sc p.1 && !(p.1 == ("__debug__" : Str)))
/-- a constant of the module -/
def CnOk (K : PySem.W.Frag) (mg : Str → Option Value) (d : PyData) (x : Str) : Prop := ∃ u v, mg x = some v ∧ RelV u v ∧ ∀ A H, Rep K A H u d
structure Cxt.Ok (G : Cxt) (X : Cx) : Prop where
  chk : G.chk = true
  N : X.N = G.N
  sc : X.env.scope = G.sc
  fnc : ∀ x, G.fnc x = true → X.fn x = true
  calm : X.calm = true
  xe : X.xe = fun _ _ => False
  un : X.A.units + 200 < cLine
  blt : ∀ x ∈ G.blt ++ G.hid, X.mg x = none
  fns : ∀ x n C, (G.fns ++ G.hfns).lookup x = some (n, C) → ∃ f fd k ps, X.mg x = some (.ref f) ∧ PySem.W.keepIn X.K (.ref f) = true ∧ Binds X.K fd ps [] ∧ FnOk X.prog X.w X.K X.mg X.base CX0 k f fd ps (spC X.K n C) ∧ Room k X.A
  cns : ∀ x d, G.cns.lookup x = some d → CnOk X.K X.mg d x
  bfs : ∀ x id, G.bfs.lookup x = some id → X.mg x = some (.builtin id)
section
variable {G : Cxt} {X : Cx}
theorem Cxt.chkD (h : G.chk = true) : G.N.Nodup ∧ (∀ p ∈ G.tab, G.N[p.2]? = some p.1 ∧ visC G.sc p.1 = true ∧ (p.1 == ("__debug__" : Str)) = false ∧ (p.1 == ("__classdict__" : Str)) = false) ∧ (∀ x ∈ G.loc, locC G.sc G.fnc x = true) ∧
    (∀ x ∈ G.blt, glC G.sc x = true ∧ (x == ("__debug__" : Str)) = false ∧ (x == ("__name__" : Str)) = false) ∧ ∀ p ∈ G.fns, glC G.sc p.1 = true ∧ (p.1 == ("__debug__" : Str)) = false := by
  unfold Cxt.chk at h
  simp only [Bool.and_eq_true, List.all_eq_true, decide_eq_true_eq, Bool.not_eq_true'] at h
  obtain ⟨⟨⟨⟨h1, h2⟩, h3⟩, h4⟩, h5⟩ := h
  exact ⟨h1, fun p hp => ⟨(h2 p hp).1.1.1, (h2 p hp).1.1.2, (h2 p hp).1.2, (h2 p hp).2⟩, h3, fun x hx => ⟨(h4 x hx).1.1, (h4 x hx).1.2, (h4 x hx).2⟩, h5⟩
theorem lookup_mem {α : Type} {l : List (Str × α)} {x : Str} {i : α} (h : l.lookup x = some i) : (x, i) ∈ l := PySem.mem_of_lookup h
theorem Cxt.Ok.nd (ok : G.Ok X) : X.N.Nodup := by
  rw [ok.N]
  exact (Cxt.chkD ok.chk).1
theorem vis_of {sc : Scope} {x : Str} (h : visC sc x = true) : Vis sc x := by
  unfold visC at h
  unfold Vis
  split at h <;> first | (rename_i e; simp [e]; done) | cases h
theorem loc_of {sc : Scope} {f : Str → Bool} {x : Str} (h : locC sc f x = true) : L2.Loc sc x ∧ (f x = true ∨ sc.names.lookup x = some .local) := by
  unfold locC at h
  unfold L2.Loc
  split at h
  · rename_i e; exact ⟨.inl e, .inr e⟩
  · rename_i e; exact ⟨.inr e, .inl h⟩
  · cases h
theorem gl_of {sc : Scope} {x : Str} (h : glC sc x = true) : sc.names.lookup x = some .globalImplicit := by
  unfold glC at h
  split at h
  · assumption
  · cases h
theorem Cxt.Ok.var (ok : G.Ok X) {x : Str} {i : Nat} (h : G.tab.lookup x = some i) : X.N[i]? = some x ∧ Vis X.env.scope x ∧ (x == ("__debug__" : Str)) = false ∧ (x == ("__classdict__" : Str)) = false := by
  obtain ⟨h1, h2, h3, h4⟩ := (Cxt.chkD ok.chk).2.1 _ (lookup_mem h)
  rw [ok.N, ok.sc]
  exact ⟨h1, vis_of h2, h3, h4⟩
theorem Cxt.Ok.st (ok : G.Ok X) {x : Str} (h : x ∈ G.loc) : L2.Loc X.env.scope x ∧ (X.fn x = true ∨ X.env.scope.names.lookup x = some .local) := by
  obtain ⟨a, b⟩ := loc_of ((Cxt.chkD ok.chk).2.2.1 x h)
  rw [ok.sc]
  exact ⟨a, b.imp (ok.fnc x) id⟩
theorem Cxt.Ok.gl (ok : G.Ok X) {x : Str} (h : x ∈ G.blt) : Gl X x ∧ X.mg x = none ∧ (x == ("__debug__" : Str)) = false ∧ x ≠ "__name__" := by
  obtain ⟨a, b, c⟩ := (Cxt.chkD ok.chk).2.2.2.1 x h
  refine ⟨?_, ok.blt x (List.mem_append_left _ h), b, beq_eq_false_iff_ne.mp c⟩
  show X.env.scope.names.lookup x = _
  rw [ok.sc]
  exact gl_of a
theorem Cxt.Ok.glf (ok : G.Ok X) {x : Str} {C : Nat × Contract} (h : G.fns.lookup x = some C) : Gl X x ∧ (x == ("__debug__" : Str)) = false := by
  obtain ⟨a, b⟩ := (Cxt.chkD ok.chk).2.2.2.2 _ (lookup_mem h)
  refine ⟨?_, b⟩
  show X.env.scope.names.lookup x = _
  rw [ok.sc]
  exact gl_of a
/-- within a comprehension's block -/
def Cxt.blk (G : Cxt) (scope : Scope) (tab : List (Str × Nat)) (loc : List Str) : Cxt :=
  { N := G.N, sc := relS scope G.sc, tab := tab, loc := loc, fnc := fun x => scope.names.lookup x == some .cell, blt := (G.blt ++ G.hid).filter (glC (relS scope G.sc)), fns := (G.fns ++ G.hfns).filter (fun p => glC (relS scope G.sc) p.1), hid := G.blt ++ G.hid, hfns := G.fns ++ G.hfns, cns := G.cns, bfs := G.bfs }
theorem lookup_left {α : Type} {x : Str} {v : α} {l m : List (Str × α)} (h : l.lookup x = some v) : (l ++ m).lookup x = some v := by rw [List.lookup_append, h]; rfl
theorem lookup_filter {α : Type} {f : Str → Bool} {x : Str} {v : α} : ∀ {l : List (Str × α)}, (l.filter fun p => f p.1).lookup x = some v → l.lookup x = some v
  | [], h => h
  | (k, a) :: l, h => by
    rw [List.lookup_cons]
    rw [List.filter_cons] at h
    by_cases hf : f k = true
    · rw [if_pos hf, List.lookup_cons] at h
      split
      · rename_i e; rw [e] at h; exact h
      · rename_i e; rw [e] at h; exact lookup_filter h
    · rw [if_neg hf] at h
      split
      · rename_i e
        have e2 : x = k := eq_of_beq e
        subst e2
        have := lookup_mem h
        rw [List.mem_filter] at this
        exact absurd this.2 hf
      · exact lookup_filter h
theorem Cxt.Ok.blk (ok : G.Ok X) {scope : Scope} {tab : List (Str × Nat)} {loc : List Str} (hc : (G.blk scope tab loc).chk = true) (s : Shared) (H : Hp) (C : Addr) (cl : List (Str × Addr)) (fp : List Addr) :
    (G.blk scope tab loc).Ok (X.blk s H scope (compEnvC scope cl C X.env) fp) where
  chk := hc
  N := ok.N
  sc := by
    show relS scope X.env.scope = _
    rw [ok.sc]
    rfl
  fnc := fun x h => h
  calm := ok.calm
  xe := rfl
  un := ok.un
  blt := fun x hx => by
    rcases List.mem_append.mp hx with hx | hx
    · exact ok.blt x (List.mem_filter.mp hx).1
    · exact ok.blt x hx
  fns := fun x n C h => by
    refine ok.fns x n C ?_
    rw [List.lookup_append] at h
    cases q : List.lookup x ((G.fns ++ G.hfns).filter fun p => glC (relS scope G.sc) p.1) with
    | some v =>
      have h : (List.lookup x ((G.fns ++ G.hfns).filter fun p => glC (relS scope G.sc) p.1)).or (List.lookup x (G.fns ++ G.hfns)) = some (n, C) := h
      rw [q] at h
      have := lookup_filter q
      rw [this, ← h]; rfl
    | none =>
      have h : (List.lookup x ((G.fns ++ G.hfns).filter fun p => glC (relS scope G.sc) p.1)).or (List.lookup x (G.fns ++ G.hfns)) = some (n, C) := h
      rw [q] at h
      exact h
  cns := ok.cns
  bfs := ok.bfs
end

/-! ### judgements -/
theorem PE_weak {X : Cx} {e : Expr} {t t' : TE} (h : PE X e t) (w : ∀ σ H Q, t' σ H Q → t σ H Q) : PE X e t' := ⟨fun pins s σ H Q I q => h.run pins s σ H Q I (w σ H Q q)⟩
theorem PT_weak {X : Cx} {e : Expr} {t t' : TT} (h : PT X e t) (w : ∀ σ H Q, t' σ H Q → t σ H Q) : PT X e t' := ⟨fun pins s σ H Q I q => h.run pins s σ H Q I (w σ H Q q)⟩
theorem PW_weak {X : Cx} {e : Expr} {t t' : TT} (h : PW X e t) (w : ∀ σ H Q, t' σ H Q → t σ H Q) : PW X e t' := ⟨fun wh pins s σ H Q I q => h.run wh pins s σ H Q I (w σ H Q q)⟩
theorem PA_weak {X : Cx} {e : List Expr} {t t' : TA} (h : PA X e t) (w : ∀ σ H Q, t' σ H Q → t σ H Q) : PA X e t' := ⟨fun pos pins s σ H Q I q => h.run pos pins s σ H Q I (w σ H Q q)⟩
theorem PS_weak {X : Cx} {e : Stmt} {t t' : TS} (h : PS X e t) (w : ∀ D σ H, t' D σ H → t D σ H) : PS X e t' := ⟨fun pins s σ H D I q => h.run pins s σ H D I (w D σ H q)⟩
theorem PSs_weak {X : Cx} {e : List Stmt} {t t' : TS} (h : PSs X e t) (w : ∀ D σ H, t' D σ H → t D σ H) : PSs X e t' := ⟨fun pins s σ H D I q => h.run pins s σ H D I (w D σ H q)⟩
theorem PI_weak {X : Cx} {tg e : Expr} {t t' : TI} (h : PI X tg e t) (w : ∀ σ H Q, t' σ H Q → t σ H Q) : PI X tg e t' := ⟨fun pins s σ H Q I q => h.run pins s σ H Q I (w σ H Q q)⟩
theorem PG_weak {X : Cx} {e : Expr} {t t' : TG} (h : PG X e t) (w : ∀ v σ H Q, t' v σ H Q → t v σ H Q) : PG X e t' := ⟨fun pins s σ H v u Q I r q => h.run pins s σ H v u Q I r (w v σ H Q q)⟩
theorem PGs_weak {X : Cx} {e : List Expr} {t t' : TGs} (h : PGs X e t) (w : ∀ v σ H Q, t' v σ H Q → t v σ H Q) : PGs X e t' := ⟨fun pins s σ H v u Q I r q => h.run pins s σ H v u Q I r (w v σ H Q q)⟩
theorem PO_weak {X : Cx} {e : Option Expr} {t t' : TO} (h : PO X e t) (w : ∀ σ H Q, t' σ H Q → t σ H Q) : PO X e t' := ⟨fun pins s σ H Q I q => h.run pins s σ H Q I (w σ H Q q)⟩

def Bp (B : AP) (p : Addr) : AP := fun a => B a ∨ a = p
def tE (K : PySem.W.Frag) (S : List Sl) (d : PyData) (S' : List Sl) : TE := fun σ H Q => ∃ B, Holds K B S σ H ∧ ∀ v H', Holds K B S' σ H' → Rel S σ H S' σ H' → Rep K (Av S' σ B) H' v d → Q v H'
/-- a new object -/
def tF (K : PySem.W.Frag) (S : List Sl) (o : Ob) (S' : List Sl) : TE := fun σ H Q => ∃ B, Holds K B S σ H ∧ ∀ p H', H p = none → ¬ OwnA S' σ p → Holds K (Bp B p) S' σ H' → Rel S σ H S' σ H' → ObAt K (Av S' σ (Bp B p)) H' p o → Q (.ref p) H'
/-- an object to be read -/
def tB' (K : PySem.W.Frag) (S : List Sl) (o : Ob) (S' : List Sl) : TE := fun σ H Q => ∃ B, Holds K B S σ H ∧ ∀ a H', Holds K B S' σ H' → Rel S σ H S' σ H' → ObRd K (OwnA S' σ) (Av S' σ B) H' a o → Q (.ref a) H'
def tT (K : PySem.W.Frag) (S : List Sl) (b : Bool) (S' : List Sl) : TT := fun σ H Q => ∃ B, Holds K B S σ H ∧ ∀ H', Holds K B S' σ H' → Rel S σ H S' σ H' → Q b H'
inductive AR where
  | dat (d : PyData)
  /-- the object in a slot, lent -/
  | slot (i : Nat)
  /-- an object that is read -/
  | rd (o : Ob)
inductive ArgR (K : PySem.W.Frag) (O A : AP) (H : Hp) (σ : L2.St) : List V → List AR → Prop
  | nil : ArgR K O A H σ [] []
  | dat {v : V} {d : PyData} {vs : List V} {as : List AR} : Rep K A H v d → ArgR K O A H σ vs as → ArgR K O A H σ (v :: vs) (.dat d :: as)
  | slot {v : V} {i : Nat} {vs : List V} {as : List AR} : σ[i]? = some (some v) → ArgR K O A H σ vs as → ArgR K O A H σ (v :: vs) (.slot i :: as)
  | rd {a : Addr} {o : Ob} {vs : List V} {as : List AR} : ObRd K O A H a o → ArgR K O A H σ vs as → ArgR K O A H σ (.ref a :: vs) (.rd o :: as)
def tAr (K : PySem.W.Frag) (S : List Sl) (as : List AR) (S' : List Sl) : TA := fun σ H Q => ∃ B, Holds K B S σ H ∧ ∀ vs H', Holds K B S' σ H' → Rel S σ H S' σ H' → ArgR K (OwnA S' σ) (Av S' σ B) H' σ vs as → Q vs H'
inductive Rz where
  | nx (S : List Sl)
  | bk (S : List Sl)
  | ret (r : Rt) (S : List Sl)
def RetOk (K : PySem.W.Frag) (B : AP) (S : List Sl) (σ : L2.St) (H : Hp) (S' : List Sl) (σ' : L2.St) (H' : Hp) (v : V) : Rt → Prop
  | .dat d => Rep K (Av S' σ' B) H' v d
  | .own o => ∃ p, v = .ref p ∧ (OwnA S σ p ∨ H p = none) ∧ (∀ (i : Nat) o', S'[i]? = some (Sl.io o') → σ'[i]? ≠ some (some (V.ref p))) ∧ ObAt K (Av S' σ' (Bp B p)) H' p o
def Wants (K : PySem.W.Frag) (B : AP) (S : List Sl) (σ : L2.St) (H : Hp) (D : Ends) : Rz → Prop
  | .nx S' => ∀ σ' H', Holds K B S' σ' H' → Rel S σ H S' σ' H' → D.nx σ' H'
  | .bk S' => ∀ σ' H', Holds K B S' σ' H' → Rel S σ H S' σ' H' → D.bk σ' H'
  | .ret r S' => ∀ v σ' H', Holds K B S' σ' H' → Rel S σ H S' σ' H' → RetOk K B S σ H S' σ' H' v r → D.rt v H'
def tS (K : PySem.W.Frag) (S : List Sl) (R : Rz) : TS := fun D σ H => ∃ B, Holds K B S σ H ∧ Wants K B S σ H D R
def tGt (K : PySem.W.Frag) (ix : List Nat) (S : List Sl) (d : PyData) (S' : List Sl) : TG := fun v σ H Q => ∃ B, Holds K B S σ H ∧ Rep K (Av S σ B) H v d ∧ ∀ σ' H', Holds K B S' σ' H' → Rel S σ H S' σ' H' → (∀ i : Nat, i ∉ ix → σ'[i]? = σ[i]?) → Q σ' H'
def tGs (K : PySem.W.Frag) (ix : List Nat) (S : List Sl) (ds : List PyData) (S' : List Sl) : TGs := fun vs σ H Q => ∃ B, Holds K B S σ H ∧ Reps K (Av S σ B) H vs ds ∧ ∀ σ' H', Holds K B S' σ' H' → Rel S σ H S' σ' H' → (∀ i : Nat, i ∉ ix → σ'[i]? = σ[i]?) → Q σ' H'
/-- what a loop walks: the items ds -/
def JOk (K : PySem.W.Frag) (S : List Sl) (σ : L2.St) (B : AP) (H : Hp) (J : It) (ds : List PyData) : Prop :=
  ∀ H1, (∀ a o, H a = some o → ¬ OwnA S σ a → H1 a = some o) → (∀ (i : Nat) d, ds[i]? = some d → J.go i H1 ∧ ∀ x H2, J.yld i H1 x H2 → (∀ a o, H1 a = some o → H2 a = some o) ∧ (Rep K (Av S σ B) H x d ∨ (pur d = true ∧ Rep K (fun _ => False) H2 x d))) ∧ (∀ i : Nat, ds.length ≤ i → J.stop i H1)
def tIt (K : PySem.W.Frag) (S : List Sl) (ds : List PyData) (S' : List Sl) : TI := fun σ H R => ∃ B, Holds K B S σ H ∧ ∀ J H', Holds K B S' σ H' → Rel S σ H S' σ H' → JOk K S' σ B H' J ds → R J H'

section
variable (G : Cxt)
def DE (e : Expr) (S : List Sl) (d : PyData) (S' : List Sl) : Prop := ∀ X, G.Ok X → PE X e (tE X.K S d S')
def DF (e : Expr) (S : List Sl) (o : Ob) (S' : List Sl) : Prop := ∀ X, G.Ok X → PE X e (tF X.K S o S')
def DB (e : Expr) (S : List Sl) (o : Ob) (S' : List Sl) : Prop := ∀ X, G.Ok X → PE X e (tB' X.K S o S')
def DT (e : Expr) (S : List Sl) (b : Bool) (S' : List Sl) : Prop := ∀ X, G.Ok X → PT X e (tT X.K S b S')
def DW (e : Expr) (S : List Sl) (b : Bool) (S' : List Sl) : Prop := ∀ X, G.Ok X → PW X e (tT X.K S b S')
def DA (es : List Expr) (S : List Sl) (as : List AR) (S' : List Sl) : Prop := ∀ X, G.Ok X → PA X es (tAr X.K S as S')
def DS (st : Stmt) (S : List Sl) (R : Rz) : Prop := ∀ X, G.Ok X → PS X st (tS X.K S R)
def DSs (st : List Stmt) (S : List Sl) (R : Rz) : Prop := ∀ X, G.Ok X → PSs X st (tS X.K S R)
def DG (tg : Expr) (ix : List Nat) (S : List Sl) (d : PyData) (S' : List Sl) : Prop := ∀ X, G.Ok X → PG X tg (tGt X.K ix S d S')
def DGs (tg : List Expr) (ix : List Nat) (S : List Sl) (ds : List PyData) (S' : List Sl) : Prop := ∀ X, G.Ok X → PGs X tg (tGs X.K ix S ds S')
def DI (tg e : Expr) (S : List Sl) (ds : List PyData) (S' : List Sl) : Prop := ∀ X, G.Ok X → PI X tg e (tIt X.K S ds S')
end
section
variable {G : Cxt} {S S1 S2 S3 : List Sl} {a b c e : Expr} {d d1 d2 : PyData} {pos : Pos} {K : PySem.W.Frag} {B : AP} {σ : L2.St} {H H' : Hp}

/-! ### names, constants -/
theorem Holds.dat {i : Nat} (h : Holds K B S σ H) (e : S[i]? = some (Sl.dat d)) : ∃ v, σ[i]? = some (some v) ∧ Rep K (Av S σ B) H v d := h.sl i _ e
theorem de_var {x : Str} {i : Nat} (hx : G.tab.lookup x = some i) (hs : S[i]? = some (Sl.dat d)) : DE G (.Name x pos) S d S := fun X ok => by
  obtain ⟨h1, h2, h3, h4⟩ := ok.var hx
  refine PE_weak (pe_var h1 h2 h3 h4) fun σ H Q ⟨B, hh, k⟩ => ?_
  obtain ⟨v, e, r⟩ := hh.dat hs
  exact ⟨v, e, k v H hh Rel.refl r⟩
theorem db_var {x : Str} {i : Nat} {o : Ob} (hx : G.tab.lookup x = some i) (hs : S[i]? = some (Sl.bor o)) : DB G (.Name x pos) S o S := fun X ok => by
  obtain ⟨h1, h2, h3, h4⟩ := ok.var hx
  refine PE_weak (pe_var h1 h2 h3 h4) fun σ H Q ⟨B, hh, k⟩ => ?_
  obtain ⟨a, e, r⟩ := hh.sl i _ hs
  exact ⟨_, e, k a H hh Rel.refl r⟩
theorem ObLk.rd {O A : AP} {a : Addr} {o : Ob} (h : ObLk K O A H a o) : ObRd K O A H a o := by
  cases o with
  | lst _ => cases h
  | dk _ => obtain ⟨kvs, ob, n, e, r⟩ := h; exact ⟨kvs, ⟨n, .inr ⟨ob, e⟩⟩, r⟩
  | dt _ => obtain ⟨kvs, ob, n, e, r⟩ := h; exact ⟨kvs, ⟨n, .inr ⟨ob, e⟩⟩, r⟩
theorem db_lkd {x : Str} {i : Nat} {o : Ob} (hx : G.tab.lookup x = some i) (hs : S[i]? = some (Sl.lkd o)) : DB G (.Name x pos) S o S := fun X ok => by
  obtain ⟨h1, h2, h3, h4⟩ := ok.var hx
  refine PE_weak (pe_var h1 h2 h3 h4) fun σ H Q ⟨B, hh, k⟩ => ?_
  obtain ⟨a, e, r⟩ := hh.sl i _ hs
  exact ⟨_, e, k a H hh Rel.refl r.rd⟩
theorem de_int {i : Int} {j : Nat} : DE G (.Constant (.int i) j pos) S (.int i) S := fun X ok => PE_weak pe_int fun σ H Q ⟨B, hh, k⟩ => k _ H hh Rel.refl (.int i)
theorem de_bl {i : Bool} {j : Nat} : DE G (.Constant (.bool i) j pos) S (.bool i) S := fun X ok => PE_weak pe_bl fun σ H Q ⟨B, hh, k⟩ => k _ H hh Rel.refl (.bl i)
theorem de_non {j : Nat} : DE G (.Constant .none j pos) S .none S := fun X ok => PE_weak pe_non fun σ H Q ⟨B, hh, k⟩ => k _ H hh Rel.refl .non
theorem de_str {i : Str} {j : Nat} : DE G (.Constant (.str i) j pos) S (.str i) S := fun X ok => PE_weak pe_str fun σ H Q ⟨B, hh, k⟩ => k _ H hh Rel.refl (.str i)

/-! ### operators whose results are no objects -/
def ScaR (r : R2) (K : PySem.W.Frag) (d1 d2 d : PyData) : Prop := ∀ (A : AP) (H : Hp) (x y : V) (Q : VK), Rep K A H x d1 → Rep K A H y d2 → (∀ z, (∀ A H, Rep K A H z d) → Q z H) → r x y H Q
theorem de_op {op : Operator} {r : PySem.W.Frag → R2} (ho : ∀ X, G.Ok X → OpR X (binaryOp op) (r X.K)) (ha : DE G a S d1 S1) (hb : DE G b S1 d2 S2) (hr : ∀ K, ScaR (r K) K d1 d2 d) : DE G (.BinOp a op b pos) S d S2 := fun X ok => by
  refine PE_weak (pe_op (ho X ok) (ha X ok) (hb X ok)) fun σ H Q ⟨B, hh, k⟩ => ⟨B, hh, fun v H1 h1 r1 q1 => ⟨B, h1, fun u H2 h2 r2 q2 => ?_⟩⟩
  exact hr X.K _ H2 v u Q (q1.car r2.car) q2 fun z hz => k z H2 h2 (r1.trans r2) (hz _ _)
theorem de_un {op : UnaryOp} {r : PySem.W.Frag → V → Hp → VK → Prop} (ho : ∀ X, G.Ok X → UnR X (unaryOp op) (r X.K)) (ha : DE G a S d1 S1) (hr : ∀ K (A : AP) H x Q, Rep K A H x d1 → (∀ z, (∀ A H, Rep K A H z d) → Q z H) → r K x H Q) : DE G (.UnaryOp op a pos) S d S1 := fun X ok => by
  refine PE_weak (pe_un (ho X ok) (ha X ok)) fun σ H Q ⟨B, hh, k⟩ => ⟨B, hh, fun v H1 h1 r1 q1 => ?_⟩
  exact hr X.K _ H1 v Q q1 fun z hz => k z H1 h1 r1 (hz _ _)
theorem rep_int {A : AP} {x : V} {i : Int} (h : Rep K A H x (.int i)) : x = .int i := by cases h; rfl
theorem rep_bl {A : AP} {x : V} {i : Bool} (h : Rep K A H x (.bool i)) : x = .bl i := by cases h; rfl
theorem rep_str {A : AP} {x : V} {i : Str} (h : Rep K A H x (.str i)) : x = .str i := by cases h; rfl
theorem rep_non {A : AP} {x : V} (h : Rep K A H x .none) : x = .non := by cases h; rfl
theorem sca_I0 {g : Int → Int → Int} {i j : Int} : ScaR (rI0 fun i j => .int (g i j)) K (.int i) (.int j) (.int (g i j)) := fun A H x y Q h1 h2 k => ⟨i, j, rep_int h1, rep_int h2, k _ fun _ _ => .int _⟩
theorem sca_I {C : Int → Int → Prop} {g : Int → Int → Int} {i j : Int} (hc : C i j) : ScaR (rI C fun i j => .int (g i j)) K (.int i) (.int j) (.int (g i j)) := fun A H x y Q h1 h2 k => ⟨i, j, rep_int h1, rep_int h2, hc, k _ fun _ _ => .int _⟩
theorem sca_B0 {g : Int → Int → Bool} {i j : Int} : ScaR (rI0 fun i j => .bl (g i j)) K (.int i) (.int j) (.bool (g i j)) := fun A H x y Q h1 h2 k => ⟨i, j, rep_int h1, rep_int h2, k _ fun _ _ => .bl _⟩
variable {i j : Int}
theorem de_add (ha : DE G a S (.int i) S1) (hb : DE G b S1 (.int j) S2) : DE G (.BinOp a .Add b pos) S (.int (i + j)) S2 := de_op (fun _ _ => op_add) ha hb fun _ => sca_I0
theorem de_sub (ha : DE G a S (.int i) S1) (hb : DE G b S1 (.int j) S2) : DE G (.BinOp a .Sub b pos) S (.int (i - j)) S2 := de_op (fun _ _ => op_sub) ha hb fun _ => sca_I0
theorem de_mul (ha : DE G a S (.int i) S1) (hb : DE G b S1 (.int j) S2) (h : CMul i j) : DE G (.BinOp a .Mult b pos) S (.int (i * j)) S2 := de_op (fun _ _ => op_mul) ha hb fun _ => sca_I h
theorem de_mod (ha : DE G a S (.int i) S1) (hb : DE G b S1 (.int j) S2) (h : 0 < j) : DE G (.BinOp a .Mod b pos) S (.int (i % j)) S2 := de_op (fun _ _ => op_mod) ha hb fun _ => sca_I (C := fun _ j => 0 < j) h
theorem de_fdiv (ha : DE G a S (.int i) S1) (hb : DE G b S1 (.int j) S2) (h : CDiv i j) : DE G (.BinOp a .FloorDiv b pos) S (.int (i / j)) S2 := de_op (fun _ _ => op_fdiv) ha hb fun _ => sca_I h
theorem de_pow (ha : DE G a S (.int i) S1) (hb : DE G b S1 (.int j) S2) (h : CPow i j) : DE G (.BinOp a .Pow b pos) S (.int (i ^ j.toNat)) S2 := de_op (r := fun _ => rI CPow fun i j => .int (i ^ j.toNat)) (fun _ _ => op_pow) ha hb fun _ => sca_I (g := fun i j => i ^ j.toNat) h
theorem de_neg (ha : DE G a S (.int i) S1) : DE G (.UnaryOp .USub a pos) S (.int (-i)) S1 := de_un (r := fun _ => rU fun i => .int (-i)) (fun _ _ => un_neg) ha fun K A H x Q h k => ⟨i, rep_int h, k _ fun _ _ => .int _⟩
end
end Pw
namespace Pw
open PySem PySem.Spec L2

/-! ### descriptions as the library's -/
section
variable {K : PySem.W.Frag} {A : AP} {H : Hp}
mutual
theorem Rep.dp : ∀ {v : V} {d : PyData}, Rep K A H v d → Dp K H v d
  | _, _, .non => .non
  | _, _, .bl b => .bl b
  | _, _, .int i => .int i
  | _, _, .str x => .str x
  | _, _, .lst h r => .lst h.sq (Reps.dp r)
  | _, _, .tup h r => .tup h.sq (Reps.dp r)
theorem Reps.dp : ∀ {vs : List V} {ds : List PyData}, Reps K A H vs ds → DpAll K H vs ds
  | _, _, .nil => .nil
  | _, _, .cons r t => .cons (Rep.dp r) (Reps.dp t)
end
end
theorem Rep.reads {X : Cx} {pins : List (Addr × Obj)} {σ : L2.St} {H : Hp} {s : Shared} {A : AP} {v : V} {d : PyData} {u : Value} (I : Inv X pins σ H s) (h : Rep X.K A H v d) (r : RelV v u) : ∃ as, Reads s.heap u d as := Dp.reads I d v u h.dp r

section
variable {G : Cxt} {S S1 S2 S3 : List Sl} {a b c e : Expr} {es : List Expr} {d d1 d2 : PyData} {ds : List PyData} {o : Ob} {as : List AR} {pos : Pos} {K : PySem.W.Frag} {B : AP} {σ : L2.St} {H H' : Hp} {p : Addr}

/-! ### arguments, displays -/
def tDs (K : PySem.W.Frag) (S : List Sl) (ds : List PyData) (S' : List Sl) : TA := fun σ H Q => ∃ B, Holds K B S σ H ∧ ∀ vs H', Holds K B S' σ H' → Rel S σ H S' σ H' → Reps K (Av S' σ B) H' vs ds → Q vs H'
def DD (G : Cxt) (es : List Expr) (S : List Sl) (ds : List PyData) (S' : List Sl) : Prop := ∀ X, G.Ok X → PA X es (tDs X.K S ds S')
theorem dd_nil : DD G [] S [] S := fun X ok => PA_weak pa_nil fun σ H Q ⟨B, hh, k⟩ => k [] H hh Rel.refl .nil
theorem dd_cons (ha : DE G e S d S1) (hb : DD G es S1 ds S2) (hs : ∀ env, starEach (e :: es) env = (false, eval e env) :: starEach es env := by intro _; rfl) : DD G (e :: es) S (d :: ds) S2 := fun X ok =>
  PA_weak (pa_cons (ha X ok) (hb X ok) (hs _)) fun σ H Q ⟨B, hh, k⟩ => ⟨B, hh, fun v H1 h1 r1 q1 => ⟨B, h1, fun vs H2 h2 r2 q2 => k (v :: vs) H2 h2 (r1.trans r2) (.cons (q1.car r2.car) q2)⟩⟩
theorem da_nil : DA G [] S [] S := fun X ok => PA_weak pa_nil fun σ H Q ⟨B, hh, k⟩ => k [] H hh Rel.refl .nil
theorem da_dat (ha : DE G e S d S1) (hb : DA G es S1 as S2) (hs : ∀ env, starEach (e :: es) env = (false, eval e env) :: starEach es env := by intro _; rfl) : DA G (e :: es) S (.dat d :: as) S2 := fun X ok =>
  PA_weak (pa_cons (ha X ok) (hb X ok) (hs _)) fun σ H Q ⟨B, hh, k⟩ => ⟨B, hh, fun v H1 h1 r1 q1 => ⟨B, h1, fun vs H2 h2 r2 q2 => k (v :: vs) H2 h2 (r1.trans r2) (.dat (q1.car r2.car) q2)⟩⟩
theorem da_rd (ha : DB G e S o S1) (hb : DA G es S1 as S2) (hs : ∀ env, starEach (e :: es) env = (false, eval e env) :: starEach es env := by intro _; rfl) : DA G (e :: es) S (.rd o :: as) S2 := fun X ok =>
  PA_weak (pa_cons (ha X ok) (hb X ok) (hs _)) fun σ H Q ⟨B, hh, k⟩ => ⟨B, hh, fun a H1 h1 r1 q1 => ⟨B, h1, fun vs H2 h2 r2 q2 => k (.ref a :: vs) H2 h2 (r1.trans r2) (.rd (q1.car r2.car r2.cdO) q2)⟩⟩
def slotObj : Sl → Bool
  | .own _ => true
  | .io _ => true
  | .bor _ => true
  | .lkd _ => true
  | _ => false
theorem Holds.obj {i : Nat} {s : Sl} (h : Holds K B S σ H) (e : S[i]? = some s) (ho : slotObj s = true) : ∃ a, σ[i]? = some (some (V.ref a)) := by
  have q := h.sl i s e
  cases s with
  | own o => obtain ⟨a, e, _⟩ := q; exact ⟨a, e⟩
  | io o => obtain ⟨a, e, _⟩ := q; exact ⟨a, e⟩
  | bor o => obtain ⟨a, e, _⟩ := q; exact ⟨a, e⟩
  | lkd o => obtain ⟨a, e, _⟩ := q; exact ⟨a, e⟩
  | un => cases ho
  | dat _ => cases ho
theorem da_slot {x : Str} {i : Nat} {s : Sl} (hx : G.tab.lookup x = some i) (hi : S[i]? = some s) (ho : slotObj s = true) (hb : DA G es S as S2) : DA G (.Name x pos :: es) S (.slot i :: as) S2 := fun X ok => by
  obtain ⟨h1, h2, h3, h4⟩ := ok.var hx
  refine PA_weak (pa_cons (pe_var h1 h2 h3 h4) (hb X ok) rfl) fun σ H Q ⟨B, hh, k⟩ => ?_
  obtain ⟨p, e⟩ := hh.obj hi ho
  exact ⟨_, e, B, hh, fun vs H2 h2 r2 q2 => k (_ :: vs) H2 h2 r2 (.slot e q2)⟩
theorem Holds.freeAv (h : Holds K B S σ H) (hp : H p = none) : ¬ Av S σ B p := fun q => q.elim (h.free hp) (h.freeB hp)
theorem line_of {n : Nat} (h : n ≤ 100000) : n ≤ sizeLine := Nat.le_trans h (by decide)
theorem de_tup {x1} (h : DD G es S ds S1) (hl : ds.length ≤ 100000 := by simp) : DE G (.Tuple es x1 pos) S (.tuple ds) S1 := fun X ok =>
  PE_weak (pe_tupX (h X ok)) fun σ H Q ⟨B, hh, k⟩ => ⟨B, hh, fun vs H1 h1 r1 q1 => ⟨by rw [q1.length]; exact line_of hl, fun p ob hp hb =>
    k (.ref p) _ (h1.same (upd_keep hp)) (r1.trans (Rel.same (upd_keep hp))) (.tup (.inl ⟨h1.freeAv hp, xt_new hb⟩) (q1.same (upd_keep hp)))⟩⟩
theorem bp_eq : (fun a => B a ∨ a = p) = Bp B p := rfl
theorem df_lst (h : DD G es S ds S1) (hl : ds.length ≤ 100000 := by simp) : DF G (.List es pos) S (.lst ds) S1 := fun X ok =>
  PE_weak (pe_lst (h X ok)) fun σ H Q ⟨B, hh, k⟩ => ⟨B, hh, fun vs H1 h1 r1 q1 => ⟨by rw [q1.length]; exact line_of hl, fun p hp =>
    k p (upd H1 p (.lst vs)) (r1.free hp) (h1.free hp) (h1.to (upd_keep hp) (fun a q => q.imp id fun z => by rw [z]; exact hp) fun a q => by
      rcases q with q | q
      · obtain ⟨o, e⟩ := mut_some (h1.bm a q)
        rw [upd_keep hp a o e, ← e]
        exact h1.bm a q
      · rw [q, upd_same]; trivial) (r1.trans (Rel.same (upd_keep hp))) ⟨vs, upd_same, q1.new (upd_keep hp) hp⟩⟩⟩
theorem Holds.newB {u : HO} (h1 : Holds K B S σ H) (hp : H p = none) (m : Mut (some u)) : Holds K (Bp B p) S σ (upd H p u) :=
  h1.to (upd_keep hp) (fun a q => q.imp id fun z => by rw [z]; exact hp) fun a q => by
    rcases q with q | q
    · obtain ⟨o, e⟩ := mut_some (h1.bm a q)
      rw [upd_keep hp a o e, ← e]
      exact h1.bm a q
    · rw [q, upd_same]; exact m
/-! ### a new object, a lent one, as data, as an object to be read -/
theorem Av.forget {a : Addr} (h : Av S σ B a) : Av S σ (Bp B p) a := h.imp id .inl
theorem Holds.unP (h : Holds K (Bp B p) S σ H) : Holds K B S σ H := by
  have c : Car (Av S σ (Bp B p)) (Av S σ B) H H := ⟨fun a xs n q => ⟨fun z => n (Av.forget z), q⟩, fun a xs n q => ⟨fun z => n (Av.forget z), q⟩⟩
  exact ⟨h.len, fun i s e => (h.sl i s e).car c (fun a u n e => ⟨n, e⟩) fun _ _ _ _ e => e, h.inj, fun a q => h.bm a (.inl q)⟩
theorem Car.unP : Car (Av S σ (Bp B p)) (Av S σ B) H H := ⟨fun a xs n q => ⟨fun z => n (Av.forget z), q⟩, fun a xs n q => ⟨fun z => n (Av.forget z), q⟩⟩
theorem ObAt.rd {O A : AP} {a : Addr} (h : ObAt K A H a o) (n : ¬ O a) : ObRd K O A H a o := by
  cases o with
  | lst ds => obtain ⟨xs, e, r⟩ := h; exact ⟨xs, .inl ⟨n, .inl e⟩, r⟩
  | dk ds => obtain ⟨xs, e, r⟩ := h; exact ⟨xs, ⟨n, .inl e⟩, r⟩
  | dt ds => obtain ⟨xs, e, r⟩ := h; exact ⟨xs, ⟨n, .inl e⟩, r⟩
theorem db_new (h : DF G e S o S1) : DB G e S o S1 := fun X ok => PE_weak (h X ok) fun σ H Q ⟨B, hh, k⟩ => ⟨B, hh, fun p H1 hp n h1 r1 q1 => k p H1 h1.unP r1 ((q1.car Car.unP fun _ e => e).rd n)⟩
theorem db_dat (h : DE G e S (.list ds) S1) : DB G e S (.lst ds) S1 := fun X ok => PE_weak (h X ok) fun σ H Q ⟨B, hh, k⟩ => ⟨B, hh, fun v H1 h1 r1 q1 => by
  cases q1 with
  | lst h r =>
    refine k _ H1 h1 r1 ⟨_, ?_, r⟩
    rcases h with ⟨n, h⟩ | h
    · exact .inl ⟨fun z => n (.inl z), h⟩
    · exact .inr h⟩
theorem de_new (h : DF G e S (.lst ds) S1) : DE G e S (.list ds) S1 := fun X ok => PE_weak (h X ok) fun σ H Q ⟨B, hh, k⟩ => ⟨B, hh, fun p H1 hp n h1 r1 q1 => by
  obtain ⟨xs, e, r⟩ := q1
  exact k (.ref p) H1 h1.unP r1 (.lst (.inl ⟨fun z => z.elim n (hh.freeB hp), .inl e⟩) (r.car Car.unP))⟩

/-- an own object is lent while an expression runs -/
theorem Holds.lend {i : Nat} {o : Ob} {s : Sl} (h : Holds K B S σ H) (e : S[i]? = some s) (hs : s = .own o ∨ s = .io o) : ∃ p, σ[i]? = some (some (V.ref p)) ∧ Holds K (Bp B p) (S.set i (.bor o)) σ H ∧ (∀ a, OwnA (S.set i (.bor o)) σ a → OwnA S σ a ∧ a ≠ p) ∧ (∀ a, OwnA S σ a → a = p ∨ OwnA (S.set i (.bor o)) σ a) ∧ ObAt K (Av S σ B) H p o := by
  have ow : own? s = true := by rcases hs with rfl | rfl <;> rfl
  obtain ⟨p, er, q⟩ : ∃ p, σ[i]? = some (some (V.ref p)) ∧ ObAt K (Av S σ B) H p o := by
    have q := h.sl i s e
    rcases hs with rfl | rfl <;> exact q
  have hi : i < S.length := (List.getElem?_eq_some_iff.mp e).1
  have sub : ∀ a, OwnA (S.set i (.bor o)) σ a → OwnA S σ a ∧ a ≠ p := fun a ⟨j, t, e1, ht, er1⟩ => by
    rcases get_set e1 with ⟨rfl, rfl, _⟩ | ⟨ne, e1⟩
    · cases ht
    · exact ⟨⟨j, t, e1, ht, er1⟩, fun z => ne (h.inj i j s t p e e1 ow ht er (by rw [← z]; exact er1))⟩
  have sup : ∀ a, OwnA S σ a → a = p ∨ OwnA (S.set i (.bor o)) σ a := fun a ⟨j, t, e1, ht, er1⟩ => by
    by_cases z : i = j
    · subst z
      rw [er] at er1; cases er1
      exact .inl rfl
    · exact .inr ⟨j, t, by rw [List.getElem?_set_ne z]; exact e1, ht, er1⟩
  have av : ∀ a, Av (S.set i (.bor o)) σ (Bp B p) a → Av S σ B a := fun a z => by
    rcases z with z | z | z
    · exact .inl (sub a z).1
    · exact .inr z
    · rw [z]; exact .inl ⟨i, s, e, ow, er⟩
  have c : Car (Av S σ B) (Av (S.set i (.bor o)) σ (Bp B p)) H H := ⟨fun a xs n q => ⟨fun z => n (av a z), q⟩, fun a xs n q => ⟨fun z => n (av a z), q⟩⟩
  refine ⟨p, er, ⟨by rw [List.length_set]; exact h.len, fun j t e1 => ?_, fun j k t u a e1 e2 o1 o2 r1 r2 => ?_, fun a z => ?_⟩, sub, sup, q⟩
  · rcases get_set e1 with ⟨rfl, rfl, _⟩ | ⟨ne, e1⟩
    · exact ⟨p, er, (q.car c fun _ e => e).rd fun z => (sub p z).2 rfl⟩
    · exact (h.sl j t e1).car c (fun a u n e => ⟨fun z => n (sub a z).1, e⟩) fun _ _ _ _ e => e
  · rcases get_set e1 with ⟨rfl, rfl, _⟩ | ⟨ne1, e1⟩
    · cases o1
    · rcases get_set e2 with ⟨rfl, rfl, _⟩ | ⟨ne2, e2⟩
      · cases o2
      · exact h.inj j k t u a e1 e2 o1 o2 r1 r2
  · rcases z with z | z
    · exact h.bm a z
    · rw [z]; exact q.mut
/-- .. and taken back -/
theorem Holds.back {B' : AP} {i : Nat} {o : Ob} {s : Sl} {σ' : L2.St} (h : Holds K B S σ H) (hB : ∀ a, B' a → B a ∨ H a = none) (e : S[i]? = some s) (hs : s = .own o ∨ s = .io o) (er : σ[i]? = some (some (V.ref p)))
    (h' : Holds K (Bp B' p) S1 σ' H') (r : Rel (S.set i (.bor o)) σ H S1 σ' H') (e1 : S1[i]? = some (.bor o)) : Holds K B' (S1.set i s) σ' H' ∧ Rel S σ H (S1.set i s) σ' H' ∧ (∀ a, Av (S1.set i s) σ' B' a ↔ Av S1 σ' (Bp B' p) a) := by
  have ow : own? s = true := by rcases hs with rfl | rfl <;> rfl
  obtain ⟨p', er', h0, sub, sup, q0⟩ := h.lend e hs
  rw [er] at er'; cases er'
  obtain ⟨e0, eσ⟩ := r.fix i _ e1 rfl
  have er1 : σ'[i]? = some (some (V.ref p)) := by rw [eσ]; exact er
  have npS : ¬ OwnA (S.set i (.bor o)) σ p := fun z => (sub p z).2 rfl
  obtain ⟨u0, hu0⟩ := mut_some q0.mut
  have np1 : ¬ OwnA S1 σ' p := (r.ownKeep npS hu0).1
  have hup : H' p = H p := by rw [hu0]; exact (r.ownKeep npS hu0).2
  have hi : i < S1.length := (List.getElem?_eq_some_iff.mp e1).1
  have own1 : ∀ a, OwnA (S1.set i s) σ' a → OwnA S1 σ' a ∨ a = p := fun a ⟨j, t, e2, ht, er2⟩ => by
    rcases get_set e2 with ⟨rfl, rfl, _⟩ | ⟨ne, e2⟩
    · rw [er1] at er2; cases er2
      exact .inr rfl
    · exact .inl ⟨j, t, e2, ht, er2⟩
  have own2 : ∀ a, OwnA S1 σ' a ∨ a = p → OwnA (S1.set i s) σ' a := fun a z => by
    rcases z with ⟨j, t, e2, ht, er2⟩ | z
    · have ne : i ≠ j := fun z => by subst z; rw [e1] at e2; cases e2; cases ht
      exact ⟨j, t, by rw [List.getElem?_set_ne ne]; exact e2, ht, er2⟩
    · subst z
      exact ⟨i, s, List.getElem?_set_self hi, ow, er1⟩
  have av : ∀ a, Av (S1.set i s) σ' B' a ↔ Av S1 σ' (Bp B' p) a := fun a => ⟨fun z => by
    rcases z with z | z
    · rcases own1 a z with q | q
      · exact .inl q
      · exact .inr (.inr q)
    · exact .inr (.inl z), fun z => by
    rcases z with z | z | z
    · exact .inl (own2 a (.inl z))
    · exact .inr z
    · exact .inl (own2 a (.inr z))⟩
  have c : Car (Av S1 σ' (Bp B' p)) (Av (S1.set i s) σ' B') H' H' := ⟨fun a xs n q => ⟨fun z => n ((av a).mp z), q⟩, fun a xs n q => ⟨fun z => n ((av a).mp z), q⟩⟩
  have no : ∀ a u, ¬ OwnA S σ a → H a = some u → ¬ OwnA (S1.set i s) σ' a ∧ H' a = some u := fun a u n e => by
    have n2 : ¬ OwnA (S.set i (.bor o)) σ a := fun z => n (sub a z).1
    refine ⟨fun z => ?_, (r.ownKeep n2 e).2⟩
    rcases own1 a z with q | q
    · exact (r.ownKeep n2 e).1 q
    · subst q; exact n ⟨i, s, ‹_›, ow, er⟩
  have c0 : Car (Av S σ B) (Av (S1.set i s) σ' B') H H' := by
    refine ⟨fun a xs n q => ?_, fun a xs n q => ?_⟩ <;> (
      refine ⟨fun z => ?_, by first | exact rd_keep (fun u e => (no a u (fun z => n (.inl z)) e).2) q | exact xt_keep (fun u e => (no a u (fun z => n (.inl z)) e).2) q⟩
      obtain ⟨u, e⟩ := (by first | exact rd_some q | exact xt_some q)
      rcases z with z | z
      · exact (no a u (fun z => n (.inl z)) e).1 z
      · rcases hB a z with z | z
        · exact n (.inr z)
        · rw [e] at z; cases z)
  have lent1 : ∀ (j : Nat) (t : Sl), i ≠ j → S1[j]? = some t → lent? t = true → SlOk K (OwnA (S1.set i s) σ') (Av (S1.set i s) σ' B') H' σ'[j]? t := fun j t ne e2 ht => by
    obtain ⟨e3, eσ3⟩ := r.fix j t e2 ht
    rw [List.getElem?_set_ne ne] at e3
    rw [eσ3]
    exact (h.sl j t e3).car c0 no (fun ow => absurd ow (by cases t <;> first | exact Bool.false_ne_true | cases ht))
  refine ⟨⟨by rw [List.length_set]; exact h'.len, fun j t e2 => ?_, fun j k t u a e2 e3 o1 o2 r1 r2 => ?_, fun a z => h'.bm a (.inl z)⟩, ⟨fun a u e n => ?_, fun a z => ?_, fun j ob e2 => ?_, ?_, fun j ob e2 => ?_, fun j t e2 ht => ?_, r.dom⟩, av⟩
  · rcases get_set e2 with ⟨rfl, rfl, _⟩ | ⟨ne, e2⟩
    · have q2 : ObAt K (Av (S1.set i t) σ' B') H' p o := q0.car c0 fun u e => by rw [hup]; exact e
      rcases hs with rfl | rfl <;> exact ⟨p, er1, q2⟩
    · cases t with
      | un => trivial
      | dat d => obtain ⟨v, e, r⟩ := h'.sl j _ e2; exact ⟨v, e, r.car c⟩
      | own o => obtain ⟨a, e, r⟩ := h'.sl j _ e2; exact ⟨a, e, r.car c fun _ e => e⟩
      | io o => obtain ⟨a, e, r⟩ := h'.sl j _ e2; exact ⟨a, e, r.car c fun _ e => e⟩
      | bor o => exact lent1 j _ ne e2 rfl
      | lkd o => exact lent1 j _ ne e2 rfl
  · rcases get_set e2 with ⟨rfl, rfl, _⟩ | ⟨ne1, f2⟩
    · rw [er1] at r1; cases r1
      rcases get_set e3 with ⟨rfl, rfl, _⟩ | ⟨ne2, f3⟩
      · rfl
      · exact absurd ⟨k, u, f3, o2, r2⟩ np1
    · rcases get_set e3 with ⟨rfl, rfl, _⟩ | ⟨ne2, f3⟩
      · rw [er1] at r2; cases r2
        exact absurd ⟨j, t, f2, o1, r1⟩ np1
      · exact h'.inj j k t u a f2 f3 o1 o2 r1 r2
  · exact r.keep a u e fun z => n (sub a z).1
  · rcases own1 a z with q | q
    · rcases r.own a q with q | q
      · exact .inl (sub a q).1
      · exact .inr q
    · rw [q]; exact .inl ⟨i, s, ‹_›, ow, er⟩
  · by_cases z : i = j
    · subst z
      rw [‹S[i]? = some s›] at e2; cases e2
      refine ⟨eσ, ob, ?_⟩
      rw [List.getElem?_set_self hi]
    · obtain ⟨e3, ob', e4⟩ := r.ios j ob (by rw [List.getElem?_set_ne z]; exact e2)
      exact ⟨e3, ob', by rw [List.getElem?_set_ne z]; exact e4⟩
  · rw [List.length_set, r.len, List.length_set]
  · rcases get_set e2 with ⟨rfl, e3, _⟩ | ⟨ne, e2⟩
    · exact ⟨ob, by rw [e3]; assumption⟩
    · obtain ⟨ob', e4⟩ := r.iob j ob e2
      rw [List.getElem?_set_ne ne] at e4
      exact ⟨ob', e4⟩
  · rcases get_set e2 with ⟨rfl, e3, _⟩ | ⟨ne, e2⟩
    · subst e3
      rcases hs with rfl | rfl <;> cases ht
    · obtain ⟨e3, e4⟩ := r.fix j t e2 ht
      rw [List.getElem?_set_ne ne] at e3
      exact ⟨e3, e4⟩
end
end Pw
namespace Pw
open PySem PySem.Spec L2

section
variable {G : Cxt} {S S1 S2 S3 : List Sl} {a b c e : Expr} {es rest : List Expr} {d d1 d2 : PyData} {ds : List PyData} {o : Ob} {as : List AR} {pos : Pos} {K : PySem.W.Frag} {B : AP} {σ : L2.St} {H H' : Hp} {p : Addr} {i : Nat} {s : Sl} {k1 k2 : Bool}

/-! ### lending -/
theorem Car.imp {A A' : AP} (h : ∀ a, A' a → A a) : Car A A' H H := ⟨fun a xs n q => ⟨fun z => n (h a z), q⟩, fun a xs n q => ⟨fun z => n (h a z), q⟩⟩
theorem de_lend (hs : S[i]? = some s) (hk : s = .own o ∨ s = .io o) (h : DE G e (S.set i (.bor o)) d S1) (h1 : S1[i]? = some (.bor o)) : DE G e S d (S1.set i s) := fun X ok =>
  PE_weak (h X ok) fun σ H Q ⟨B, hh, k⟩ => by
    obtain ⟨p, er, h0, _⟩ := hh.lend hs hk
    refine ⟨Bp B p, h0, fun v H' h' r q => ?_⟩
    obtain ⟨h2, r2, av⟩ := hh.back (fun _ z => .inl z) hs hk er h' r h1
    exact k v H' h2 r2 (q.car (Car.imp fun a z => (av a).mp z))
theorem dt_lend {b : Bool} (hs : S[i]? = some s) (hk : s = .own o ∨ s = .io o) (h : DT G e (S.set i (.bor o)) b S1) (h1 : S1[i]? = some (.bor o)) : DT G e S b (S1.set i s) := fun X ok =>
  PT_weak (h X ok) fun σ H Q ⟨B, hh, k⟩ => by
    obtain ⟨p, er, h0, _⟩ := hh.lend hs hk
    refine ⟨Bp B p, h0, fun H' h' r => ?_⟩
    obtain ⟨h2, r2, av⟩ := hh.back (fun _ z => .inl z) hs hk er h' r h1
    exact k H' h2 r2
theorem Holds.congrB {B' : AP} (h : Holds K B S σ H) (e : ∀ a, B a ↔ B' a) : Holds K B' S σ H := by
  have : B = B' := funext fun a => propext (e a)
  rw [← this]; exact h
theorem bp_swap {p q : Addr} : Bp (Bp B p) q = Bp (Bp B q) p := by
  funext a
  unfold Bp
  refine propext ⟨fun h => ?_, fun h => ?_⟩ <;> rcases h with (h | h) | h <;> simp [h]
theorem df_lend {o2 : Ob} (hs : S[i]? = some s) (hk : s = .own o ∨ s = .io o) (h : DF G e (S.set i (.bor o)) o2 S1) (h1 : S1[i]? = some (.bor o)) : DF G e S o2 (S1.set i s) := fun X ok =>
  PE_weak (h X ok) fun σ H Q ⟨B, hh, k⟩ => by
    obtain ⟨p, er, h0, sub, sup, q0⟩ := hh.lend hs hk
    refine ⟨Bp B p, h0, fun p2 H' hp n h' r q => ?_⟩
    rw [bp_swap] at h' q
    obtain ⟨h2, r2, av⟩ := hh.back (B' := Bp B p2) (fun a z => z.imp id fun z => by rw [z]; exact hp) hs hk er h' r h1
    refine k p2 H' hp (fun z => ?_) h2 r2 (q.car (Car.imp fun a z => (av a).mp z) fun _ e => e)
    rcases r2.own p2 z with w | _
    · exact hh.free hp w
    · have hi : i < S1.length := (List.getElem?_eq_some_iff.mp h1).1
      obtain ⟨j, t, e2, ht, er2⟩ := z
      rcases get_set e2 with ⟨rfl, rfl, _⟩ | ⟨ne, e2⟩
      · rw [er] at er2
        obtain ⟨u, hu⟩ := mut_some q0.mut
        have e3 : p = p2 := by cases er2; rfl
        rw [e3] at hu
        exact absurd (hp.symm.trans hu) (fun z => by cases z)
      · exact n ⟨j, t, e2, ht, er2⟩
theorem db_lend {o2 : Ob} (hs : S[i]? = some s) (hk : s = .own o ∨ s = .io o) (h : DE G e (S.set i (.bor o)) d S1) (h1 : S1[i]? = some (.bor o)) : DE G e S d (S1.set i s) := de_lend hs hk h h1

/-! ### tests and comparisons -/
theorem dt_cmp {op : CmpOp} {r : PySem.W.Frag → R2} (ho : ∀ X, G.Ok X → OpR X (compareOp op) (r X.K)) (ha : DE G a S d1 S1) (hb : DE G b S1 d2 S2) (hm : behindInMarks op b = false) (hr : ∀ K, ScaR (r K) K d1 d2 (.bool k1)) : DT G (.Compare a [op] [b] pos) S k1 S2 := fun X ok =>
  PT_weak (pt_cmpR (ho X ok) (ha X ok) (hb X ok) hm) fun σ H Q ⟨B, hh, k⟩ => ⟨B, hh, fun v H1 h1 r1 q1 => ⟨B, h1, fun u H2 h2 r2 q2 => hr X.K _ H2 v u _ (q1.car r2.car) q2 fun z hz => ⟨k1, rep_bl (hz (fun _ => True) H2), k H2 h2 (r1.trans r2)⟩⟩⟩
theorem de_cmp {op : CmpOp} {r : PySem.W.Frag → R2} (ho : ∀ X, G.Ok X → OpR X (compareOp op) (r X.K)) (ha : DE G a S d1 S1) (hb : DE G b S1 d2 S2) (hm : behindInMarks op b = false) (hr : ∀ K, ScaR (r K) K d1 d2 (.bool k1)) : DE G (.Compare a [op] [b] pos) S (.bool k1) S2 := fun X ok =>
  PE_weak (pe_cmpR (ho X ok) (ha X ok) (hb X ok) hm) fun σ H Q ⟨B, hh, k⟩ => ⟨B, hh, fun v H1 h1 r1 q1 => ⟨B, h1, fun u H2 h2 r2 q2 => hr X.K _ H2 v u _ (q1.car r2.car) q2 fun z hz => k z H2 h2 (r1.trans r2) (hz _ H2)⟩⟩
/-- a comparison's rule, with what it gives -/
structure CR (G : Cxt) (op : CmpOp) (d1 d2 : PyData) (k : Bool) : Prop where
  ex : ∃ r : PySem.W.Frag → R2, (∀ X, G.Ok X → OpR X (compareOp op) (r X.K)) ∧ ∀ K, ScaR (r K) K d1 d2 (.bool k)
theorem dt_c {op : CmpOp} (h : CR G op d1 d2 k1) (ha : DE G a S d1 S1) (hb : DE G b S1 d2 S2) (hm : behindInMarks op b = false := by rfl) : DT G (.Compare a [op] [b] pos) S k1 S2 := by
  obtain ⟨r, ho, hr⟩ := h.ex
  exact dt_cmp ho ha hb hm hr
theorem de_c {op : CmpOp} (h : CR G op d1 d2 k1) (ha : DE G a S d1 S1) (hb : DE G b S1 d2 S2) (hm : behindInMarks op b = false := by rfl) : DE G (.Compare a [op] [b] pos) S (.bool k1) S2 := by
  obtain ⟨r, ho, hr⟩ := h.ex
  exact de_cmp ho ha hb hm hr
section
variable {x y : Int}
theorem cr_lt : CR G .Lt (.int x) (.int y) (decide (x < y)) := ⟨_, fun _ _ => op_lt, fun _ => sca_B0 (g := fun x y => decide (x < y))⟩
theorem cr_le : CR G .LtE (.int x) (.int y) (decide (x ≤ y)) := ⟨_, fun _ _ => op_le, fun _ => sca_B0 (g := fun x y => decide (x ≤ y))⟩
theorem cr_gt : CR G .Gt (.int x) (.int y) (decide (y < x)) := ⟨_, fun _ _ => op_gt, fun _ => sca_B0 (g := fun x y => decide (y < x))⟩
theorem cr_ge : CR G .GtE (.int x) (.int y) (decide (y ≤ x)) := ⟨_, fun _ _ => op_ge, fun _ => sca_B0 (g := fun x y => decide (y ≤ x))⟩
end
def rDat (K : PySem.W.Frag) (d1 d2 : PyData) (k : Bool) : R2 := fun x y H Q => ∃ A : AP, Rep K A H x d1 ∧ Rep K A H y d2 ∧ Q (.bl k) H
theorem cr_dat {op : CmpOp} (h : ∀ X, G.Ok X → OpR X (compareOp op) (rDat X.K d1 d2 k1)) : CR G op d1 d2 k1 := ⟨fun K => rDat K d1 d2 k1, h, fun K A H x y Q h1 h2 k => ⟨A, h1, h2, k _ fun _ _ => .bl _⟩⟩
theorem cr_eqD (p1 : d1.plain = true) (p2 : d2.plain = true) (hd : d1.depth ≤ 100 ∨ d2.depth ≤ 100) : CR G .Eq d1 d2 (PyData.eqv d1 d2) := cr_dat fun X ok pins s σ H x y v u Q I rx ry ⟨A, h1, h2, q⟩ => by
  obtain ⟨as, r1⟩ := h1.reads I rx
  obtain ⟨bs, r2⟩ := h2.reads I ry
  refine SeqAt.eq_plain r1 r2 p1 p2 ?_ ⟨.bl _, H, I, rfl, q⟩
  have := ok.un
  omega
theorem cr_neD (p1 : d1.plain = true) (p2 : d2.plain = true) (hd : d1.depth ≤ 100 ∨ d2.depth ≤ 100) : CR G .NotEq d1 d2 (!PyData.eqv d1 d2) := cr_dat fun X ok pins s σ H x y v u Q I rx ry ⟨A, h1, h2, q⟩ => by
  obtain ⟨as, r1⟩ := h1.reads I rx
  obtain ⟨bs, r2⟩ := h2.reads I ry
  refine SeqAt.ne_plain r1 r2 p1 p2 ?_ ⟨.bl _, H, I, rfl, q⟩
  have := ok.un
  omega
def isNon : PyData → Bool
  | .none => true
  | _ => false
theorem rep_isNon {A : AP} {x : V} (h : Rep K A H x d) : decide (x = .non) = isNon d := by
  cases h <;> rfl
theorem cr_isN : CR G .Is d1 .none (isNon d1) := ⟨fun _ => fun x y H Q => y = .non ∧ Q (.bl (decide (x = .non))) H, fun _ _ => op_isN, fun K A H x y Q h1 h2 k => ⟨rep_non h2, by rw [rep_isNon h1]; exact k _ fun _ _ => .bl _⟩⟩
theorem cr_notN : CR G .IsNot d1 .none (!isNon d1) := ⟨fun _ => fun x y H Q => y = .non ∧ Q (.bl (!decide (x = .non))) H, fun _ _ => op_notN, fun K A H x y Q h1 h2 k => ⟨rep_non h2, by rw [rep_isNon h1]; exact k _ fun _ _ => .bl _⟩⟩
theorem cr_isB {x y : Bool} : CR G .Is (.bool x) (.bool y) (decide (x = y)) := ⟨fun _ => fun x y H Q => ∃ a b, x = .bl a ∧ y = .bl b ∧ Q (.bl (decide (a = b))) H, fun _ _ => L2.op_is_bl, fun K A H v u Q h1 h2 k => ⟨x, y, rep_bl h1, rep_bl h2, k _ fun _ _ => .bl _⟩⟩
theorem cr_isNotB {x y : Bool} : CR G .IsNot (.bool x) (.bool y) (!decide (x = y)) := ⟨fun _ => fun x y H Q => ∃ a b, x = .bl a ∧ y = .bl b ∧ Q (.bl (!decide (a = b))) H, fun _ _ => L2.op_isnot_bl, fun K A H v u Q h1 h2 k => ⟨x, y, rep_bl h1, rep_bl h2, k _ fun _ _ => .bl _⟩⟩
theorem dt_val {t : Bool} (h : DE G e S (.bool t) S1) (he : ∀ env whole, isTrue e env whole = (do let v ← whole; standAt e.pos; holding [v] (truthy v)) := by intro _ _; rfl) : DT G e S t S1 := fun X ok =>
  PT_weak (pt_val (h X ok) (he _)) fun σ H Q ⟨B, hh, k⟩ => ⟨B, hh, fun v H1 h1 r1 q1 => ⟨t, rep_bl q1, k H1 h1 r1⟩⟩
theorem dt_not (h : DT G a S k1 S1) : DT G (.UnaryOp .Not a pos) S (!k1) S1 := fun X ok => PT_weak (pt_not (h X ok)) fun σ H Q ⟨B, hh, k⟩ => ⟨B, hh, fun H1 h1 r1 => k H1 h1 r1⟩
theorem dt_w (h : DW G e S k1 S1) : DT G e S k1 S1 := fun X ok => (h X ok).pt
theorem dw_and1 (h : DT G a S k1 S1) : DW G (.BoolOp .And [a] pos) S k1 S1 := fun X ok => pw_and1 (h X ok)
theorem dw_or1 (h : DT G a S k1 S1) : DW G (.BoolOp .Or [a] pos) S k1 S1 := fun X ok => pw_or1 (h X ok)
theorem tT_ite {b : Bool} {t u : Prop} (h1 : b = true → t) (h2 : b = false → u) : if b = true then t else u := by
  cases b with
  | true => exact h1 rfl
  | false => exact h2 rfl
theorem dw_and (h : DT G a S k1 S1) (h1 : k1 = true → DW G (.BoolOp .And (b :: rest) pos) S1 k2 S2) (h0 : k1 = false → k2 = false ∧ S2 = S1) : DW G (.BoolOp .And (a :: b :: rest) pos) S k2 S2 := fun X ok => by
  cases k1 with
  | true => exact PW_weak (pw_and (h X ok) (h1 rfl X ok)) fun σ H Q ⟨B, hh, k⟩ => ⟨B, hh, fun H1 hh1 r1 => tT_ite (fun _ => ⟨B, hh1, fun H2 h2 r2 => k H2 h2 (r1.trans r2)⟩) fun z => by cases z⟩
  | false =>
    obtain ⟨rfl, rfl⟩ := h0 rfl
    exact PW_weak (pw_and (tB' := fun _ _ _ => False) (h X ok) ⟨fun _ _ _ _ _ _ _ h => h.elim⟩) fun σ H Q ⟨B, hh, k⟩ => ⟨B, hh, fun H1 hh1 r1 => tT_ite (fun z => by cases z) fun _ => k H1 hh1 r1⟩
theorem dw_or (h : DT G a S k1 S1) (h1 : k1 = false → DW G (.BoolOp .Or (b :: rest) pos) S1 k2 S2) (h0 : k1 = true → k2 = true ∧ S2 = S1) : DW G (.BoolOp .Or (a :: b :: rest) pos) S k2 S2 := fun X ok => by
  cases k1 with
  | false => exact PW_weak (pw_or (h X ok) (h1 rfl X ok)) fun σ H Q ⟨B, hh, k⟩ => ⟨B, hh, fun H1 hh1 r1 => tT_ite (fun z => by cases z) fun _ => ⟨B, hh1, fun H2 h2 r2 => k H2 h2 (r1.trans r2)⟩⟩
  | true =>
    obtain ⟨rfl, rfl⟩ := h0 rfl
    exact PW_weak (pw_or (tB' := fun _ _ _ => False) (h X ok) ⟨fun _ _ _ _ _ _ _ h => h.elim⟩) fun σ H Q ⟨B, hh, k⟩ => ⟨B, hh, fun H1 hh1 r1 => tT_ite (fun _ => k H1 hh1 r1) fun z => by cases z⟩
/-! as values -/
theorem de_one {op : BoolOp} (h : DE G a S d S1) : DE G (.BoolOp op [a] pos) S d S1 := fun X ok => pe_one (h X ok)
theorem de_and (h : DE G a S (.bool k1) S1) (h1 : k1 = true → DE G (.BoolOp .And (b :: rest) pos) S1 (.bool k2) S2) (h0 : k1 = false → k2 = false ∧ S2 = S1) : DE G (.BoolOp .And (a :: b :: rest) pos) S (.bool k2) S2 := fun X ok => by
  cases k1 with
  | true => exact PE_weak (pe_and (h X ok) (h1 rfl X ok)) fun σ H Q ⟨B, hh, k⟩ => ⟨B, hh, fun v H1 hh1 r1 q1 => ⟨true, rep_bl q1, tT_ite (fun _ => ⟨B, hh1, fun w H2 h2 r2 q2 => k w H2 h2 (r1.trans r2) q2⟩) fun z => by cases z⟩⟩
  | false =>
    obtain ⟨rfl, rfl⟩ := h0 rfl
    exact PE_weak (pe_and (tb := fun _ _ _ => False) (h X ok) ⟨fun _ _ _ _ _ _ h => h.elim⟩) fun σ H Q ⟨B, hh, k⟩ => ⟨B, hh, fun v H1 hh1 r1 q1 => ⟨false, rep_bl q1, tT_ite (fun z => by cases z) fun _ => k _ H1 hh1 r1 (.bl _)⟩⟩
theorem de_or (h : DE G a S (.bool k1) S1) (h1 : k1 = false → DE G (.BoolOp .Or (b :: rest) pos) S1 (.bool k2) S2) (h0 : k1 = true → k2 = true ∧ S2 = S1) : DE G (.BoolOp .Or (a :: b :: rest) pos) S (.bool k2) S2 := fun X ok => by
  cases k1 with
  | false => exact PE_weak (pe_or (h X ok) (h1 rfl X ok)) fun σ H Q ⟨B, hh, k⟩ => ⟨B, hh, fun v H1 hh1 r1 q1 => ⟨false, rep_bl q1, tT_ite (fun z => by cases z) fun _ => ⟨B, hh1, fun w H2 h2 r2 q2 => k w H2 h2 (r1.trans r2) q2⟩⟩⟩
  | true =>
    obtain ⟨rfl, rfl⟩ := h0 rfl
    exact PE_weak (pe_or (tb := fun _ _ _ => False) (h X ok) ⟨fun _ _ _ _ _ _ h => h.elim⟩) fun σ H Q ⟨B, hh, k⟩ => ⟨B, hh, fun v H1 hh1 r1 q1 => ⟨true, rep_bl q1, tT_ite (fun _ => k _ H1 hh1 r1 (.bl _)) fun z => by cases z⟩⟩
theorem de_notV (h : DE G a S (.bool k1) S1) : DE G (.UnaryOp .Not a pos) S (.bool (!k1)) S1 := fun X ok => PE_weak (pe_not (h X ok)) fun σ H Q ⟨B, hh, k⟩ => ⟨B, hh, fun v H1 h1 r1 q1 => ⟨k1, rep_bl q1, k _ H1 h1 r1 (.bl _)⟩⟩
theorem de_if {c : Expr} (h : DT G c S k1 S1) (h1 : k1 = true → DE G a S1 d S2) (h2 : k1 = false → DE G b S1 d S2) : DE G (.IfExp c a b pos) S d S2 := fun X ok => by
  cases k1 with
  | true => exact PE_weak (pe_ifExp (tb := fun _ _ _ => False) (h X ok) (h1 rfl X ok) ⟨fun _ _ _ _ _ _ h => h.elim⟩) fun σ H Q ⟨B, hh, k⟩ => ⟨B, hh, fun H1 hh1 r1 => tT_ite (fun _ => ⟨B, hh1, fun w H2 h2 r2 q2 => k w H2 h2 (r1.trans r2) q2⟩) fun z => by cases z⟩
  | false => exact PE_weak (pe_ifExp (ta := fun _ _ _ => False) (h X ok) ⟨fun _ _ _ _ _ _ h => h.elim⟩ (h2 rfl X ok)) fun σ H Q ⟨B, hh, k⟩ => ⟨B, hh, fun H1 hh1 r1 => tT_ite (fun z => by cases z) fun _ => ⟨B, hh1, fun w H2 h2 r2 q2 => k w H2 h2 (r1.trans r2) q2⟩⟩
theorem df_if {c : Expr} (h : DT G c S k1 S1) (h1 : k1 = true → DF G a S1 o S2) (h2 : k1 = false → DF G b S1 o S2) : DF G (.IfExp c a b pos) S o S2 := fun X ok => by
  cases k1 with
  | true => exact PE_weak (pe_ifExp (tb := fun _ _ _ => False) (h X ok) (h1 rfl X ok) ⟨fun _ _ _ _ _ _ h => h.elim⟩) fun σ H Q ⟨B, hh, k⟩ => ⟨B, hh, fun H1 hh1 r1 => tT_ite (fun _ => ⟨B, hh1, fun p H2 hp n h2 r2 q2 => k p H2 (r1.free hp) n h2 (r1.trans r2) q2⟩) fun z => by cases z⟩
  | false => exact PE_weak (pe_ifExp (ta := fun _ _ _ => False) (h X ok) ⟨fun _ _ _ _ _ _ h => h.elim⟩ (h2 rfl X ok)) fun σ H Q ⟨B, hh, k⟩ => ⟨B, hh, fun H1 hh1 r1 => tT_ite (fun z => by cases z) fun _ => ⟨B, hh1, fun p H2 hp n h2 r2 q2 => k p H2 (r1.free hp) n h2 (r1.trans r2) q2⟩⟩
/-- a < b < c, c of no effect -/
theorem dt_chain {op op' : CmpOp} {d3 : PyData} (h : CR G op d1 d2 k1) (h' : CR G op' d2 d3 k2) (ha : DE G a S d1 S1) (hb : DE G b S1 d2 S2) (hc : DE G c S2 d3 S2)
    (hm : lastMarks [op, op'] [b, c] = false := by with_unfolding_all rfl) : DT G (.Compare a [op, op'] [b, c] pos) S (k1 && k2) S2 := fun X ok => by
  obtain ⟨r, ho, hr⟩ := h.ex
  obtain ⟨r', ho', hr'⟩ := h'.ex
  refine PT_weak (pt_chain (ho X ok) (ho' X ok) (ha X ok) (hb X ok) (hc X ok) hm) fun σ H Q ⟨B, hh, k⟩ => ⟨B, hh, fun v H1 h1 r1 q1 => ⟨B, h1, fun u H2 h2 r2 q2 => hr X.K _ H2 v u _ (q1.car r2.car) q2 fun z hz => ⟨k1, rep_bl (hz (fun _ => True) H2), ?_⟩⟩⟩
  exact tT_ite (fun e => ⟨B, h2, fun w H3 h3 r3 q3 => hr' X.K _ H3 u w _ (q2.car r3.car) q3 fun z hz => ⟨k2, rep_bl (hz (fun _ => True) H3), by
    have q := k H3 h3 ((r1.trans r2).trans r3)
    rw [e] at q
    exact q⟩⟩) fun e => ⟨false, rfl, by
    have q := k H2 h2 (r1.trans r2)
    rw [e] at q
    exact q⟩
theorem de_chain {op op' : CmpOp} {d3 : PyData} (h : CR G op d1 d2 k1) (h' : CR G op' d2 d3 k2) (ha : DE G a S d1 S1) (hb : DE G b S1 d2 S2) (hc : DE G c S2 d3 S2)
    (hm : lastMarks [op, op'] [b, c] = false := by with_unfolding_all rfl) : DE G (.Compare a [op, op'] [b, c] pos) S (.bool (k1 && k2)) S2 := fun X ok => by
  obtain ⟨r, ho, hr⟩ := h.ex
  obtain ⟨r', ho', hr'⟩ := h'.ex
  refine PE_weak (pe_chain (ho X ok) (ho' X ok) (ha X ok) (hb X ok) (hc X ok) hm) fun σ H Q ⟨B, hh, k⟩ => ⟨B, hh, fun v H1 h1 r1 q1 => ⟨B, h1, fun u H2 h2 r2 q2 => hr X.K _ H2 v u _ (q1.car r2.car) q2 fun z hz => ⟨k1, rep_bl (hz (fun _ => True) H2), ?_⟩⟩⟩
  exact tT_ite (fun e => ⟨B, h2, fun w H3 h3 r3 q3 => hr' X.K _ H3 u w _ (q2.car r3.car) q3 fun z hz => by
    refine k z H3 h3 ((r1.trans r2).trans r3) ?_
    rw [e]
    exact hz _ _⟩) fun e => by
    refine k _ H2 h2 (r1.trans r2) ?_
    rw [e]
    exact .bl _
end
end Pw
namespace Pw
open PySem PySem.Spec L2

section
variable {G : Cxt} {S S1 S2 S3 T T' : List Sl} {a b c e : Expr} {es rest : List Expr} {d d1 d2 : PyData} {ds : List PyData} {o o' : Ob} {as : List AR} {p1 p2 pos : Pos} {K : PySem.W.Frag} {O A A' B : AP} {σ : L2.St} {H H' : Hp} {p q : Addr} {i : Nat} {s : Sl} {k1 k2 : Bool} {vs : List V} {v : V}

/-! ### calls of defs -/
def lendOb : Sl → Option Ob
  | .own o => some o
  | .io o => some o
  | .bor o => some o
  | .lkd o => some o
  | _ => none
def noSlot (i : Nat) : List AR → Bool
  | [] => true
  | .slot j :: as => !(i == j) && noSlot i as
  | _ :: as => noSlot i as
inductive CArgs (S : List Sl) : List AR → List Sl → Option Nat → Prop
  | nil : CArgs S [] [] none
  | dat {d : PyData} {as : List AR} {T : List Sl} {k : Option Nat} : CArgs S as T k → CArgs S (.dat d :: as) (.dat d :: T) k
  | bor {i : Nat} {s : Sl} {o : Ob} {as : List AR} {T : List Sl} {k : Option Nat} : S[i]? = some s → lendOb s = some o → k ≠ some i → CArgs S as T k → CArgs S (.slot i :: as) (.bor o :: T) k
  | rd {o : Ob} {as : List AR} {T : List Sl} {k : Option Nat} : CArgs S as T k → CArgs S (.rd o :: as) (.bor o :: T) k
  | io {i : Nat} {s : Sl} {o : Ob} {as : List AR} {T : List Sl} : S[i]? = some s → (s = .own o ∨ s = .io o) → noSlot i as = true → CArgs S as T none → CArgs S (.slot i :: as) (.io o :: T) (some i)
theorem ownA_cons {x : Option V} {a : Addr} : OwnA (s :: T) (x :: σ) a ↔ (own? s = true ∧ x = some (V.ref a)) ∨ OwnA T σ a := by
  constructor
  · rintro ⟨j, t, e, ht, er⟩
    cases j with
    | zero =>
      simp at e er
      subst e; exact .inl ⟨ht, er⟩
    | succ j => exact .inr ⟨j, t, by simpa using e, ht, by simpa using er⟩
  · rintro (⟨h, rfl⟩ | ⟨j, t, e, ht, er⟩)
    · exact ⟨0, s, by simp, h, by simp⟩
    · exact ⟨j + 1, t, by simpa using e, ht, by simpa using er⟩
theorem ownA_nil {a : Addr} : ¬ OwnA [] σ a := by
  rintro ⟨j, t, e, _⟩
  simp at e
/-- the callee's own address is the slot's -/
theorem CArgs.own {k : Option Nat} (c : CArgs S as T k) : ∀ {vs : List V}, ArgR K O A H σ vs as → ∀ a, OwnA T (vs.map some) a → ∃ i s, k = some i ∧ S[i]? = some s ∧ own? s = true ∧ σ[i]? = some (some (V.ref a)) := by
  induction c with
  | nil => intro vs r a h; exact (ownA_nil h).elim
  | dat c ih =>
    intro vs r a h
    cases r with
    | dat _ r =>
      rw [List.map_cons, ownA_cons] at h
      rcases h with ⟨h, _⟩ | h
      · cases h
      · exact ih r a h
  | bor e l n c ih =>
    intro vs r a h
    cases r with
    | slot er r =>
      rw [List.map_cons, ownA_cons] at h
      rcases h with ⟨h, _⟩ | h
      · cases h
      · exact ih r a h
  | rd c ih =>
    intro vs r a h
    cases r with
    | rd _ r =>
      rw [List.map_cons, ownA_cons] at h
      rcases h with ⟨h, _⟩ | h
      · cases h
      · exact ih r a h
  | @io i s o as T e l n c ih =>
    intro vs r a h
    cases r with
    | slot er r =>
      rw [List.map_cons, ownA_cons] at h
      rcases h with ⟨_, h⟩ | h
      · cases h
        exact ⟨i, s, rfl, e, by rcases l with rfl | rfl <;> rfl, er⟩
      · obtain ⟨_, _, z, _⟩ := ih r a h
        cases z
theorem noSlot_at {j : Nat} : ∀ {as : List AR}, noSlot i as = true → as[j]? = some (.slot i) → False
  | [], _, h => by simp at h
  | .slot l :: as, h, e => by
    unfold noSlot at h
    rw [Bool.and_eq_true] at h
    cases j with
    | zero =>
      simp at e
      subst e
      simp at h
    | succ j => exact noSlot_at h.2 (by simpa using e)
  | .dat _ :: as, h, e => by
    cases j with
    | zero => simp at e
    | succ j => exact noSlot_at (as := as) h (by simpa using e)
  | .rd _ :: as, h, e => by
    cases j with
    | zero => simp at e
    | succ j => exact noSlot_at (as := as) h (by simpa using e)
theorem CArgs.length {k : Option Nat} (c : CArgs S as T k) : T.length = as.length := by
  induction c with
  | nil => rfl
  | dat _ ih => rw [List.length_cons, List.length_cons, ih]
  | bor _ _ _ _ ih => rw [List.length_cons, List.length_cons, ih]
  | rd _ ih => rw [List.length_cons, List.length_cons, ih]
  | io _ _ _ _ ih => rw [List.length_cons, List.length_cons, ih]
theorem ArgR.length : ∀ {vs : List V} {as : List AR}, ArgR K O A H σ vs as → vs.length = as.length
  | _, _, .nil => rfl
  | _, _, .dat _ t => by rw [List.length_cons, List.length_cons, ArgR.length t]
  | _, _, .slot _ t => by rw [List.length_cons, List.length_cons, ArgR.length t]
  | _, _, .rd _ t => by rw [List.length_cons, List.length_cons, ArgR.length t]
/-- one argument -/
theorem CArgs.at {k : Option Nat} (c : CArgs S as T k) : ∀ {vs : List V}, ArgR K O A H σ vs as → ∀ (j : Nat) t, T[j]? = some t →
    (∃ d v, t = .dat d ∧ vs[j]? = some v ∧ Rep K A H v d) ∨ (∃ i s o v, t = .bor o ∧ vs[j]? = some v ∧ S[i]? = some s ∧ lendOb s = some o ∧ k ≠ some i ∧ σ[i]? = some (some v) ∧ as[j]? = some (.slot i)) ∨ (∃ i s o v, t = .io o ∧ vs[j]? = some v ∧ S[i]? = some s ∧ (s = .own o ∨ s = .io o) ∧ k = some i ∧ σ[i]? = some (some v) ∧ ∀ l t', l ≠ j → T[l]? = some t' → own? t' = false) ∨ (∃ o a, t = .bor o ∧ vs[j]? = some (V.ref a) ∧ ObRd K O A H a o) := by
  induction c with
  | nil => intro vs r j t e; simp at e
  | dat c ih =>
    intro vs r j t e
    cases r with
    | dat q r =>
      cases j with
      | zero => simp at e; subst e; exact .inl ⟨_, _, rfl, rfl, q⟩
      | succ j =>
        rcases ih r j t (by simpa using e) with h | h | ⟨i, s, o, v, h1, h2, h3, h4, h5, h6, h7⟩ | h
        · exact .inl (by simpa using h)
        · exact .inr (.inl (by simpa using h))
        · refine .inr (.inr (.inl ⟨i, s, o, v, h1, by simpa using h2, h3, h4, h5, h6, fun l t' hl hT => ?_⟩))
          cases l with
          | zero => simp at hT; subst hT; rfl
          | succ l => exact h7 l t' (by omega) (by simpa using hT)
        · exact .inr (.inr (.inr (by simpa using h)))
  | @bor i s o as T k e l n c ih =>
    intro vs r j t e2
    cases r with
    | slot er r =>
      cases j with
      | zero => simp at e2; subst e2; exact .inr (.inl ⟨i, s, o, _, rfl, rfl, e, l, n, er, rfl⟩)
      | succ j =>
        rcases ih r j t (by simpa using e2) with h | h | ⟨i, s, o, v, h1, h2, h3, h4, h5, h6, h7⟩ | h
        · exact .inl (by simpa using h)
        · exact .inr (.inl (by simpa using h))
        · refine .inr (.inr (.inl ⟨i, s, o, v, h1, by simpa using h2, h3, h4, h5, h6, fun l t' hl hT => ?_⟩))
          cases l with
          | zero => simp at hT; subst hT; rfl
          | succ l => exact h7 l t' (by omega) (by simpa using hT)
        · exact .inr (.inr (.inr (by simpa using h)))
  | rd c ih =>
    intro vs r j t e
    cases r with
    | rd q r =>
      cases j with
      | zero => simp at e; subst e; exact .inr (.inr (.inr ⟨_, _, rfl, rfl, q⟩))
      | succ j =>
        rcases ih r j t (by simpa using e) with h | h | ⟨i, s, o, v, h1, h2, h3, h4, h5, h6, h7⟩ | h
        · exact .inl (by simpa using h)
        · exact .inr (.inl (by simpa using h))
        · refine .inr (.inr (.inl ⟨i, s, o, v, h1, by simpa using h2, h3, h4, h5, h6, fun l t' hl hT => ?_⟩))
          cases l with
          | zero => simp at hT; subst hT; rfl
          | succ l => exact h7 l t' (by omega) (by simpa using hT)
        · exact .inr (.inr (.inr (by simpa using h)))
  | @io i s o as T e l n c ih =>
    intro vs r j t e2
    cases r with
    | slot er r =>
      have none_own : ∀ (l : Nat) t', T[l]? = some t' → own? t' = false := fun l t' hT => by
        rcases ih r l t' hT with ⟨_, _, rfl, _⟩ | ⟨_, _, _, _, rfl, _⟩ | ⟨_, _, _, _, _, _, _, _, z, _⟩ | ⟨_, _, rfl, _⟩
        · rfl
        · rfl
        · cases z
        · rfl
      cases j with
      | zero =>
        simp at e2; subst e2
        refine .inr (.inr (.inl ⟨i, s, o, _, rfl, rfl, e, l, rfl, er, fun l t' hl hT => ?_⟩))
        cases l with
        | zero => exact absurd rfl hl
        | succ l => exact none_own l t' (by simpa using hT)
      | succ j =>
        rcases ih r j t (by simpa using e2) with h | ⟨i', s', o', v', h1, h2, h3, h4, h5, h6, h7⟩ | ⟨_, _, _, _, _, _, _, _, z, _⟩ | h
        · exact .inl (by simpa using h)
        · refine .inr (.inl ⟨i', s', o', v', h1, by simpa using h2, h3, h4, fun z => ?_, h6, by simpa using h7⟩)
          cases z
          exact noSlot_at n h7
        · cases z
        · exact .inr (.inr (.inr (by simpa using h)))
theorem sl_of_bor {t : Sl} {j : Nat} {O' : AP} (h : Holds K B S σ H) (e : S[j]? = some t) (l : lendOb t = some o) (er : σ[j]? = some (some v)) (sub : ∀ a, O' a → OwnA S σ a) (ne : own? t = true → ∀ a, v = V.ref a → ¬ O' a) : ∃ a, v = V.ref a ∧ ObRd K O' (Av S σ B) H a o := by
  have q := h.sl j t e
  cases t with
  | un => cases l
  | dat _ => cases l
  | own o1 =>
    cases l
    obtain ⟨a, e1, r⟩ := q
    rw [er] at e1; cases e1
    exact ⟨a, rfl, r.rd (ne rfl a rfl)⟩
  | io o1 =>
    cases l
    obtain ⟨a, e1, r⟩ := q
    rw [er] at e1; cases e1
    exact ⟨a, rfl, r.rd (ne rfl a rfl)⟩
  | bor o1 =>
    cases l
    obtain ⟨a, e1, r⟩ := q
    rw [er] at e1; cases e1
    exact ⟨a, rfl, r.car (Car.imp fun _ z => z) fun a u n q => ⟨fun z => n (sub a z), q⟩⟩
  | lkd o1 =>
    cases l
    obtain ⟨a, e1, r⟩ := q
    rw [er] at e1; cases e1
    exact ⟨a, rfl, r.rd.car (Car.imp fun _ z => z) fun a u n q => ⟨fun z => n (sub a z), q⟩⟩
theorem ObRd.carA {O : AP} {a : Addr} (h : ObRd K O A H a o) (c : Car A A' H H) : ObRd K O A' H a o := h.car c fun _ _ n q => ⟨n, q⟩
theorem ObAt.purA {a : Addr} (h : ObAt K A H a o) (hp : o.pur = true) (ct : ∀ a xs, ¬ A a → XT H a xs → ¬ A' a ∧ XT H a xs) : ObAt K A' H a o := by
  cases o with
  | lst ds => obtain ⟨xs, e, r⟩ := h; exact ⟨xs, e, r.carP ct hp⟩
  | dk ds => obtain ⟨xs, e, k, r⟩ := h; exact ⟨xs, e, k, r.carP ct hp⟩
  | dt ds => obtain ⟨xs, e, k, r⟩ := h; exact ⟨xs, e, k, r.carP ct hp⟩
/-- the callee's entry -/
theorem CArgs.holds {k : Option Nat} (c : CArgs S as T k) (h : Holds K B S σ H) (r : ArgR K (OwnA S σ) (Av S σ B) H σ vs as) : Holds K (fun _ => False) T (vs.map some) H := by
  have sub : ∀ a, OwnA T (vs.map some) a → OwnA S σ a := fun a z => by
    obtain ⟨i, s, _, e, ho, er⟩ := c.own r a z
    exact ⟨i, s, e, ho, er⟩
  have cA : Car (Av S σ B) (Av T (vs.map some) fun _ => False) H H := Car.imp fun a z => by
    rcases z with z | z
    · exact .inl (sub a z)
    · exact z.elim
  refine ⟨by rw [c.length, List.length_map, r.length], fun j t e => ?_, fun j l t u a e1 e2 o1 o2 r1 r2 => ?_, fun _ z => z.elim⟩
  · rcases c.at r j t e with ⟨d, v, rfl, ev, q⟩ | ⟨i, s, o, v, rfl, ev, es, l, n, er, _⟩ | ⟨i, s, o, v, rfl, ev, es, l, n, er, _⟩ | ⟨o, a, rfl, ev, q⟩
    · exact ⟨v, by rw [List.getElem?_map, ev]; rfl, q.car cA⟩
    · obtain ⟨a, rfl, q⟩ := sl_of_bor h es l er sub fun ho a ea z => by
        subst ea
        obtain ⟨i', s', e1, e2, o1, r1⟩ := c.own r a z
        exact n (by rw [e1, h.inj i i' s s' a es e2 ho o1 er r1])
      exact ⟨a, by rw [List.getElem?_map, ev]; rfl, q.carA cA⟩
    · have q : ∃ a, v = V.ref a ∧ ObAt K (Av S σ B) H a o := by
        have q := h.sl i s es
        rcases l with rfl | rfl <;> (obtain ⟨a, e1, q⟩ := q; rw [er] at e1; cases e1; exact ⟨a, rfl, q⟩)
      obtain ⟨a, rfl, q⟩ := q
      exact ⟨a, by rw [List.getElem?_map, ev]; rfl, q.car cA fun _ e => e⟩
    · exact ⟨a, by rw [List.getElem?_map, ev]; rfl, q.car cA fun b u n z => ⟨fun w => n (sub b w), z⟩⟩
  · rcases c.at r j t e1 with ⟨_, _, rfl, _⟩ | ⟨_, _, _, _, rfl, _⟩ | ⟨i, s, o, v, rfl, ev, es, lq, n, er, un⟩ | ⟨_, _, rfl, _⟩
    · cases o1
    · cases o1
    · by_cases z : j = l
      · exact z
      · have := un l u (fun z' => z z'.symm) e2
        rw [this] at o2; cases o2
    · cases o1
/-! ### behind a call -/
def ioOb : List Sl → Option Ob
  | [] => none
  | .io o :: _ => some o
  | _ :: r => ioOb r
theorem ioOb_at : ∀ {T : List Sl} {o : Ob}, ioOb T = some o → ∃ j : Nat, T[j]? = some (Sl.io o)
  | [], _, h => by cases h
  | .io o :: r, _, h => by
    cases h
    exact ⟨0, rfl⟩
  | .un :: r, _, h => let ⟨j, e⟩ := ioOb_at (T := r) h; ⟨j + 1, by simpa using e⟩
  | .dat _ :: r, _, h => let ⟨j, e⟩ := ioOb_at (T := r) h; ⟨j + 1, by simpa using e⟩
  | .own _ :: r, _, h => let ⟨j, e⟩ := ioOb_at (T := r) h; ⟨j + 1, by simpa using e⟩
  | .bor _ :: r, _, h => let ⟨j, e⟩ := ioOb_at (T := r) h; ⟨j + 1, by simpa using e⟩
  | .lkd _ :: r, _, h => let ⟨j, e⟩ := ioOb_at (T := r) h; ⟨j + 1, by simpa using e⟩
def reob : Sl → Ob → Sl
  | .own _, o => .own o
  | .io _, o => .io o
  | _, _ => .un
/-- the caller's slots behind a call: S the slots ahead of it, k the slot that was lent to be changed, T' the parameters' slots behind it -/
inductive Behind (S : List Sl) : Option Nat → List Sl → List Sl → Prop
  | none {T' : List Sl} : Behind S .none T' S
  | some {i : Nat} {s : Sl} {o' : Ob} {T' : List Sl} : S[i]? = .some s → ioOb T' = .some o' → Behind S (.some i) T' (S.set i (reob s o'))
theorem ctup (h : Holds K B S σ H) : ∀ a xs, ¬ (fun _ : Addr => False) a → XT H a xs → ¬ Av S σ B a ∧ XT H a xs := fun a xs _ q => ⟨fun z => mut_not_rd_tup (h.avMut z) q.rd, q⟩
theorem holds_after {B' : AP} {k : Option Nat} {r : Rt} (c : CArgs S as T k) (h : Holds K B S σ H) (hB : ∀ a, B' a → B a ∨ H a = none) (hm : ∀ a, B' a → H a = none → Mut (H' a)) (ar : ArgR K (OwnA S σ) (Av S σ B) H σ vs as) (f : After K T vs H v H' r T') (b : Behind S k T' S2) : Holds K B' S2 σ H' ∧ Rel S σ H S2 σ H' ∧ ∀ a, OwnA S2 σ a → OwnA S σ a := by
  have keep : ∀ a o, H a = some o → ¬ OwnA S σ a → H' a = some o := fun a o e n => f.keep a o e fun z => by
    obtain ⟨i, s, _, e, ho, er⟩ := c.own ar a z
    exact n ⟨i, s, e, ho, er⟩
  have domA : ∀ a o, H a = some o → ∃ o', H' a = some o' := fun a o e => by
    by_cases z : OwnA T (vs.map some) a
    · obtain ⟨j, t, e1, ht, er⟩ := z
      have : ∃ o, t = Sl.io o := by
        rcases c.at ar j t e1 with ⟨_, _, rfl, _⟩ | ⟨_, _, _, _, rfl, _⟩ | ⟨_, _, o, _, rfl, _⟩ | ⟨_, _, rfl, _⟩
        · cases ht
        · cases ht
        · exact ⟨o, rfl⟩
        · cases ht
      obtain ⟨o1, rfl⟩ := this
      obtain ⟨o2, e2⟩ := (f.same j).mp ⟨o1, e1⟩
      obtain ⟨a', er', q⟩ := f.ios.sl j _ e2
      rw [er] at er'; cases er'
      exact mut_some q.mut
    · exact ⟨o, f.keep a o e z⟩
  cases b with
  | none =>
    have nown : ∀ a, ¬ OwnA T (vs.map some) a := fun a z => by
      obtain ⟨_, _, z, _⟩ := c.own ar a z
      cases z
    have k : ∀ a o, H a = some o → H' a = some o := fun a o e => f.keep a o e (nown a)
    refine ⟨h.to k hB fun a z => ?_, Rel.same k, fun _ z => z⟩
    rcases hB a z with w | w
    · obtain ⟨u, e⟩ := mut_some (h.bm a w)
      rw [k a u e, ← e]
      exact h.bm a w
    · exact hm a z w
  | @some i s o' _ es eo =>
    obtain ⟨j, ej⟩ := ioOb_at eo
    obtain ⟨a, er, q⟩ := f.ios.sl j _ ej
    obtain ⟨o0, e0⟩ := (f.same j).mpr ⟨o', ej⟩
    have own_a : OwnA T (vs.map some) a := ⟨j, _, e0, rfl, er⟩
    obtain ⟨i', s', hk, es', ho, erσ⟩ := c.own ar a own_a
    cases hk
    rw [es] at es'; cases es'
    have pu : o'.pur = true := f.outs _ (List.mem_of_getElem? ej)
    have hi : i < S.length := (List.getElem?_eq_some_iff.mp es).1
    have owS : own? (reob s o') = true := by cases s <;> first | rfl | cases ho
    have own_iff : ∀ b, OwnA (S.set i (reob s o')) σ b ↔ OwnA S σ b := fun b => by
      constructor
      · rintro ⟨l, t, e, ht, e2⟩
        rcases get_set e with ⟨rfl, rfl, _⟩ | ⟨ne, e⟩
        · exact ⟨i, s, es, ho, e2⟩
        · exact ⟨l, t, e, ht, e2⟩
      · rintro ⟨l, t, e, ht, e2⟩
        by_cases z : i = l
        · subst z
          exact ⟨i, _, List.getElem?_set_self hi, owS, e2⟩
        · exact ⟨l, t, by rw [List.getElem?_set_ne z]; exact e, ht, e2⟩
    have keep_own : ∀ l t b u, S[l]? = .some t → own? t = true → l ≠ i → σ[l]? = .some (.some (V.ref b)) → H b = .some u → H' b = .some u := fun l t b u e ht ne e2 e3 => f.keep b u e3 fun z => by
      obtain ⟨i2, s2, hk2, es2, ho2, er2⟩ := c.own ar b z
      cases hk2
      exact ne (h.inj l i t s2 b e es2 ht ho2 e2 er2)
    have cA : Car (Av S σ B) (Av (S.set i (reob s o')) σ B') H H' := by
      refine ⟨fun b xs n q => ?_, fun b xs n q => ?_⟩ <;> (
        refine ⟨fun z => ?_, by first | exact rd_keep (fun u e => keep b u e fun z => n (.inl z)) q | exact xt_keep (fun u e => keep b u e fun z => n (.inl z)) q⟩
        rcases z with z | z
        · exact n (.inl ((own_iff b).mp z))
        · rcases hB b z with w | w
          · exact n (.inr w)
          · obtain ⟨u, e⟩ := (by first | exact rd_some q | exact xt_some q)
            exact absurd (w.symm.trans e) (fun z => by cases z))
    have cd : ∀ b u, ¬ OwnA S σ b → H b = .some u → ¬ OwnA (S.set i (reob s o')) σ b ∧ H' b = .some u := fun b u n e => ⟨fun z => n ((own_iff b).mp z), keep b u e n⟩
    have bm : ∀ b, B' b → Mut (H' b) := fun b z' => by
      rcases hB b z' with z | z
      case inr => exact hm b z' z
      obtain ⟨u, e⟩ := mut_some (h.bm b z)
      by_cases w : OwnA T (vs.map some) b
      · have : b = a := by
          obtain ⟨i2, s2, hk2, es2, ho2, er2⟩ := c.own ar b w
          cases hk2
          rw [erσ] at er2; cases er2; rfl
        rw [this]; exact q.mut
      · rw [f.keep b u e w, ← e]; exact h.bm b z
    have h2 : Holds K B' (S.set i (reob s o')) σ H' := by
      have mu : ∀ b, Av (S.set i (reob s o')) σ B' b → Mut (H' b) := fun b z => by
        rcases z with z | z
        · have z := (own_iff b).mp z
          by_cases w : OwnA T (vs.map some) b
          · have : b = a := by
              obtain ⟨i2, s2, hk2, es2, ho2, er2⟩ := c.own ar b w
              cases hk2
              rw [erσ] at er2; cases er2; rfl
            rw [this]; exact q.mut
          · obtain ⟨u, e⟩ := mut_some (h.ownMut z)
            rw [f.keep b u e w, ← e]; exact h.ownMut z
        · exact bm b z
      have q' : ObAt K (Av (S.set i (reob s o')) σ B') H' a o' := q.purA pu fun b xs _ r => ⟨fun z => mut_not_rd_tup (mu b z) r.rd, r⟩
      refine ⟨by rw [List.length_set]; exact h.len, fun l t e => ?_, fun l m t u b e1 e2 o1 o2 r1 r2 => ?_, bm⟩
      · rcases get_set e with ⟨rfl, rfl, _⟩ | ⟨ne, e⟩
        · cases s <;> first | exact ⟨a, erσ, q'⟩ | cases ho
        · exact (h.sl l t e).car cA cd fun ow b e2 u e3 => keep_own l t b u e ow (fun z => ne z.symm) e2 e3
      · have f1 : ∃ t', S[l]? = .some t' ∧ own? t' = true := by
          rcases get_set e1 with ⟨rfl, rfl, _⟩ | ⟨ne, e1⟩
          · exact ⟨s, es, ho⟩
          · exact ⟨t, e1, o1⟩
        have f2 : ∃ t', S[m]? = .some t' ∧ own? t' = true := by
          rcases get_set e2 with ⟨rfl, rfl, _⟩ | ⟨ne, e2⟩
          · exact ⟨s, es, ho⟩
          · exact ⟨u, e2, o2⟩
        obtain ⟨t1, g1, g2⟩ := f1
        obtain ⟨t2, g3, g4⟩ := f2
        exact h.inj l m t1 t2 b g1 g3 g2 g4 r1 r2
    refine ⟨h2, ⟨keep, fun b z => .inl ((own_iff b).mp z), fun l ob e => ⟨rfl, ?_⟩, List.length_set, fun l ob e => ?_, fun l t e ht => ?_, domA⟩, fun b z => (own_iff b).mp z⟩
    · by_cases z : i = l
      · subst z
        rw [es] at e; cases e
        exact ⟨o', by rw [List.getElem?_set_self hi]; rfl⟩
      · exact ⟨ob, by rw [List.getElem?_set_ne z]; exact e⟩
    · rcases get_set e with ⟨rfl, e2, _⟩ | ⟨ne, e⟩
      · cases s with
        | io o1 => exact ⟨o1, es⟩
        | _ => cases e2
      · exact ⟨ob, e⟩
    · rcases get_set e with ⟨rfl, e2, _⟩ | ⟨ne, e⟩
      · cases s with
        | io o1 => subst e2; cases ht
        | own o1 => subst e2; cases ht
        | _ => cases ho
      · exact ⟨e, rfl⟩
theorem sp_of {k : Option Nat} {r : Rt} {C : Contract} {n : Nat} {Q : VK} {E : XK} (c : CArgs S1 as T k) (hC : C T r T') (b : Behind S1 k T' S2) (hp : T.all parSl = true) (hT : T.length = n) (hT' : T'.length = n)
    (h1 : Holds K B S1 σ H) (ar : ArgR K (OwnA S1 σ) (Av S1 σ B) H σ vs as)
    (kk : ∀ v H', (∀ B' : AP, (∀ a, B' a → B a ∨ H a = none) → (∀ a, B' a → H a = none → Mut (H' a)) → Holds K B' S2 σ H') → Rel S1 σ H S2 σ H' → (∀ a, OwnA S2 σ a → OwnA S1 σ a) → RtOk K H H' v r → Q v H') : spC K n C (vs ++ []) H Q E := by
  rw [List.append_nil]
  exact ⟨T, r, T', hC, hT, hT', fun s hs => List.all_eq_true.mp hp s hs, c.holds h1 ar, fun v H' f => by
    obtain ⟨_, r2, o2⟩ := holds_after (B' := B) c h1 (fun _ z => .inl z) (fun a z w => by
      obtain ⟨u, e⟩ := mut_some (h1.bm a z)
      rw [w] at e; cases e) ar f b
    exact kk v H' (fun B' hB hm => (holds_after c h1 hB hm ar f b).1) r2 o2 f.res⟩
theorem noB (h : Holds K B S σ H) : ∀ a, B a → H a = none → Mut (H' a) := fun a z w => by
  obtain ⟨u, e⟩ := mut_some (h.bm a z)
  rw [w] at e; cases e
/-- f(e, ..) whose result is a datum -/
theorem de_call {x : Str} {C : Contract} {k : Option Nat} {n : Nat} (hf : G.fns.lookup x = some (n, C)) (ha : DA G (e :: es) S as S1) (c : CArgs S1 as T k) (hC : C T (.dat d) T') (b : Behind S1 k T' S2) (hp : T.all parSl = true := by rfl) (hT : T.length = n := by rfl) (hT' : T'.length = n := by rfl)
    (he : ∀ env, starEach (e :: es) env = (false, eval e env) :: starEach es env := by intro _; rfl) (hpl : ∀ env, (backTo pos (starEach es env)).any (·.1) = false := by intro _; rfl) : DE G (.Call (.Name x p1) (e :: es) [] pos) S d S2 := fun X ok => by
  obtain ⟨f, fd, j, ps, hm, hk, hb, F, hr⟩ := ok.fns x n C (lookup_left hf)
  obtain ⟨hg, hd⟩ := ok.glf hf
  exact PE_weak (pe_call F hr hg hm hk hb (.nil : Vals [] []) pass0 (ha X ok) hd (he _) (hpl _)) fun σ H Q ⟨B, hh, kk⟩ => ⟨B, hh, fun vs H1 h1 r1 q1 =>
    sp_of c hC b hp hT hT' h1 q1 fun v H2 hB r2 _ q2 => by
      have h2 := hB B (fun _ z => .inl z) (noB h1)
      exact kk v H2 h2 (r1.trans r2) (q2.2.carP (ctup h2) q2.1)⟩
/-- .. a new object -/
theorem df_call {x : Str} {C : Contract} {k : Option Nat} {n : Nat} (hf : G.fns.lookup x = some (n, C)) (ha : DA G (e :: es) S as S1) (c : CArgs S1 as T k) (hC : C T (.own o) T') (b : Behind S1 k T' S2) (hp : T.all parSl = true := by rfl) (hT : T.length = n := by rfl) (hT' : T'.length = n := by rfl)
    (he : ∀ env, starEach (e :: es) env = (false, eval e env) :: starEach es env := by intro _; rfl) (hpl : ∀ env, (backTo pos (starEach es env)).any (·.1) = false := by intro _; rfl) : DF G (.Call (.Name x p1) (e :: es) [] pos) S o S2 := fun X ok => by
  obtain ⟨f, fd, j, ps, hm, hk, hb, F, hr⟩ := ok.fns x n C (lookup_left hf)
  obtain ⟨hg, hd⟩ := ok.glf hf
  refine PE_weak (pe_call F hr hg hm hk hb (.nil : Vals [] []) pass0 (ha X ok) hd (he _) (hpl _)) fun σ H Q ⟨B, hh, kk⟩ => ⟨B, hh, fun vs H1 h1 r1 q1 =>
    sp_of c hC b hp hT hT' h1 q1 fun v H2 hB r2 o2 ⟨p, ev, hp1, pu, q2⟩ => ?_⟩
  subst ev
  have h2 := hB (Bp B p) (fun a z => z.imp id fun z => by rw [z]; exact hp1) (fun a z w => by
    rcases z with z | z
    · exact noB h1 a z w
    · rw [z]; exact q2.mut)
  exact kk p H2 (r1.free hp1) (fun z => h1.free hp1 (o2 p z)) h2 (r1.trans r2) (q2.purA pu (ctup h2))
end
end Pw
namespace Pw
open PySem PySem.Spec L2

section
variable {G : Cxt} {S S' S1 S2 S3 T T' : List Sl} {a b c e : Expr} {es rest : List Expr} {d d1 d2 : PyData} {ds : List PyData} {o o' : Ob} {as : List AR} {p1 p2 pos : Pos} {K : PySem.W.Frag} {A A' B : AP} {σ σ' : L2.St} {H H' : Hp} {p q : Addr} {i : Nat} {s : Sl} {k1 k2 : Bool} {vs : List V} {v : V} {st : Stmt} {sts sts2 : List Stmt} {R : Rz} {r : Rt}

/-! ### forgetting -/
inductive Wk : List Sl → List Sl → Prop
  | nil : Wk [] []
  | eq {s : Sl} {S S' : List Sl} : Wk S S' → Wk (s :: S) (s :: S')
  | un {s : Sl} {S S' : List Sl} : io? s = false → Wk S S' → Wk (s :: S) (.un :: S')
theorem Wk.refl : ∀ {S : List Sl}, Wk S S
  | [] => .nil
  | _ :: _ => .eq Wk.refl
theorem Wk.at : ∀ {S S' : List Sl}, Wk S S' → ∀ (i : Nat) s', S'[i]? = some s' → ∃ s, S[i]? = some s ∧ (s' = s ∨ (s' = .un ∧ io? s = false))
  | _, _, .nil, _, _, e => by simp at e
  | _, _, .eq w, 0, _, e => ⟨_, rfl, .inl (by simpa using e.symm)⟩
  | _, _, .un h w, 0, _, e => ⟨_, rfl, .inr ⟨by simpa using e.symm, h⟩⟩
  | _, _, .eq w, i + 1, _, e => by simpa using Wk.at w i _ (by simpa using e)
  | _, _, .un _ w, i + 1, _, e => by simpa using Wk.at w i _ (by simpa using e)
theorem Wk.back : ∀ {S S' : List Sl}, Wk S S' → ∀ (i : Nat) s, S[i]? = some s → ∃ s', S'[i]? = some s' ∧ (s' = s ∨ (s' = .un ∧ io? s = false))
  | _, _, .nil, _, _, e => by simp at e
  | _, _, .eq w, 0, _, e => ⟨_, rfl, .inl (by simpa using e)⟩
  | _, _, .un h w, 0, _, e => ⟨_, rfl, .inr ⟨rfl, by simp at e; rw [← e]; exact h⟩⟩
  | _, _, .eq w, i + 1, _, e => by simpa using Wk.back w i _ (by simpa using e)
  | _, _, .un _ w, i + 1, _, e => by simpa using Wk.back w i _ (by simpa using e)
theorem Wk.len : ∀ {S S' : List Sl}, Wk S S' → S'.length = S.length
  | _, _, .nil => rfl
  | _, _, .eq w => by rw [List.length_cons, List.length_cons, Wk.len w]
  | _, _, .un _ w => by rw [List.length_cons, List.length_cons, Wk.len w]
theorem Wk.own (w : Wk S S') {a : Addr} (h : OwnA S' σ a) : OwnA S σ a := by
  obtain ⟨i, t, e, ht, er⟩ := h
  obtain ⟨s, es, z | ⟨z, _⟩⟩ := w.at i t e
  · subst z; exact ⟨i, t, es, ht, er⟩
  · subst z; cases ht
theorem Wk.av (w : Wk S S') {a : Addr} (h : Av S' σ B a) : Av S σ B a := h.imp w.own id
theorem Holds.wk (h : Holds K B S σ H) (w : Wk S S') : Holds K B S' σ H := by
  refine ⟨w.len.trans h.len, fun i t e => ?_, fun i j s t a e1 e2 o1 o2 r1 r2 => ?_, h.bm⟩
  · obtain ⟨s, es, z | ⟨z, _⟩⟩ := w.at i t e
    · subst z
      exact (h.sl i _ es).car (Car.imp fun _ => w.av) (fun a u n e => ⟨fun z => n (w.own z), e⟩) fun _ _ _ _ e => e
    · subst z; trivial
  · obtain ⟨s1, es1, z | ⟨z, _⟩⟩ := w.at i s e1
    · subst z
      obtain ⟨s2, es2, z | ⟨z, _⟩⟩ := w.at j t e2
      · subst z; exact h.inj i j _ _ a es1 es2 o1 o2 r1 r2
      · subst z; cases o2
    · subst z; cases o1
theorem Rel.wk (r : Rel S σ H S1 σ' H') (w : Wk S1 S') : Rel S σ H S' σ' H' := by
  refine ⟨r.keep, fun a z => r.own a (w.own z), fun i o e => ?_, w.len.trans r.len, fun i o e => ?_, fun i s e hs => ?_, r.dom⟩
  · obtain ⟨e1, o1, e2⟩ := r.ios i o e
    obtain ⟨s', e3, z | ⟨z, z2⟩⟩ := w.back i _ e2
    · subst z; exact ⟨e1, o1, e3⟩
    · cases z2
  · obtain ⟨s1, e1, z | ⟨z, _⟩⟩ := w.at i _ e
    · subst z; exact r.iob i o e1
    · cases z
  · obtain ⟨s1, e1, z | ⟨z, _⟩⟩ := w.at i _ e
    · subst z; exact r.fix i _ e1 hs
    · subst z; cases hs
theorem RetOk.wk (h : RetOk K B S σ H S1 σ' H' v r) (w : Wk S1 S') : RetOk K B S σ H S' σ' H' v r := by
  cases r with
  | dat d => exact Rep.car (Car.imp fun _ => w.av) h
  | own o =>
    obtain ⟨p, e, f, n, q⟩ := h
    refine ⟨p, e, f, fun i o' ei => ?_, q.car (Car.imp fun _ => w.av) fun _ e => e⟩
    obtain ⟨s1, e1, z | ⟨z, _⟩⟩ := w.at i _ ei
    · subst z; exact n i o' e1
    · cases z
theorem RetOk.pre {S0 : List Sl} {σ0 : L2.St} {H0 : Hp} (h : RetOk K B S σ H S1 σ' H' v r) (r0 : Rel S0 σ0 H0 S σ H) : RetOk K B S0 σ0 H0 S1 σ' H' v r := by
  cases r with
  | dat d => exact h
  | own o =>
    obtain ⟨p, e, f, n, q⟩ := h
    refine ⟨p, e, ?_, n, q⟩
    rcases f with f | f
    · exact r0.own p f
    · exact .inr (r0.free f)
inductive RzLe : Rz → Rz → Prop
  | nx {S S' : List Sl} : Wk S S' → RzLe (.nx S) (.nx S')
  | bk {S S' : List Sl} : Wk S S' → RzLe (.bk S) (.bk S')
  | ret {r : Rt} {S S' : List Sl} : Wk S S' → RzLe (.ret r S) (.ret r S')
theorem RzLe.refl : RzLe R R := by
  cases R with
  | nx S => exact .nx .refl
  | bk S => exact .bk .refl
  | ret r S => exact .ret .refl
theorem tS_le {R' : Rz} (l : RzLe R R') {D : Ends} (h : tS K S R' D σ H) : tS K S R D σ H := by
  obtain ⟨B, hh, k⟩ := h
  refine ⟨B, hh, ?_⟩
  cases l with
  | nx w => exact fun σ' H' h' r => k σ' H' (h'.wk w) (r.wk w)
  | bk w => exact fun σ' H' h' r => k σ' H' (h'.wk w) (r.wk w)
  | ret w => exact fun v σ' H' h' r q => k v σ' H' (h'.wk w) (r.wk w) (q.wk w)
theorem ds_le {R' : Rz} (h : DS G st S R) (l : RzLe R R') : DS G st S R' := fun X ok => PS_weak (h X ok) fun D σ H q => tS_le l q
theorem dss_le {R' : Rz} (h : DSs G sts S R) (l : RzLe R R') : DSs G sts S R' := fun X ok => PSs_weak (h X ok) fun D σ H q => tS_le l q

/-! ### blocks -/
theorem dss_nil (w : Wk S S') : DSs G [] S (.nx S') := fun X ok => PSs_weak pss_nil fun D σ H ⟨B, hh, k⟩ => k σ H (hh.wk w) (Rel.refl.wk w)
theorem Wants.pre {D : Ends} (r1 : Rel S σ H S1 σ' H') (k : Wants K B S σ H D R) : Wants K B S1 σ' H' D R := by
  cases R with
  | nx S2 => exact fun σ' H' h' r' => k σ' H' h' (r1.trans r')
  | bk S2 => exact fun σ' H' h' r' => k σ' H' h' (r1.trans r')
  | ret r S2 => exact fun v σ' H' h' r' q => k v σ' H' h' (r1.trans r') (q.pre r1)
theorem tS_seq {t : TS} (h : ∀ D σ H, tS K S1 R D σ H → t D σ H) {D : Ends} (q : tS K S R D σ H) : tS K S (.nx S1) { D with nx := t D } σ H := by
  obtain ⟨B, hh, k⟩ := q
  exact ⟨B, hh, fun σ1 H1 h1 r1 => h D σ1 H1 ⟨B, h1, k.pre r1⟩⟩
theorem dss_cons (h1 : DS G st S (.nx S1)) (h2 : DSs G sts S1 R) : DSs G (st :: sts) S R := fun X ok => PSs_weak (pss_cons (h1 X ok) (h2 X ok)) fun D σ H q => tS_seq (fun _ _ _ q => q) q
def Rz.leaves : Rz → Bool
  | .nx _ => false
  | _ => true
/-- nothing behind it is reached -/
theorem dss_end (h1 : DS G st S R) (hr : R.leaves = true := by rfl) : DSs G (st :: sts) S R := fun X ok => PSs_weak (pss_cons (h1 X ok) (u := tNever) pss_never) fun D σ H ⟨B, hh, k⟩ => by
  refine ⟨B, hh, ?_⟩
  cases R with
  | nx _ => cases hr
  | bk S2 => exact k
  | ret r S2 => exact k
theorem ds_ret (h : DE G e S d S1) : DS G (.Return (some e) pos) S (.ret (.dat d) S1) := fun X ok => PS_weak (ps_ret (h X ok)) fun D σ H ⟨B, hh, k⟩ => ⟨B, hh, fun v H1 h1 r1 q1 => k v σ H1 h1 r1 q1⟩
theorem ds_retF (h : DF G e S o S1) : DS G (.Return (some e) pos) S (.ret (.own o) S1) := fun X ok => PS_weak (ps_ret (h X ok)) fun D σ H ⟨B, hh, k⟩ => ⟨B, hh, fun p H1 hp n h1 r1 q1 => k (.ref p) σ H1 h1.unP r1
  ⟨p, rfl, .inr hp, fun i o' e z => n ⟨i, _, e, rfl, z⟩, q1⟩⟩
/-- return of an own object's name -/
theorem ds_retO {x : Str} (hx : G.tab.lookup x = some i) (hs : S[i]? = some (.own o)) : DS G (.Return (some (.Name x p1)) pos) S (.ret (.own o) S) := fun X ok => by
  obtain ⟨h1, h2, h3, h4⟩ := ok.var hx
  refine PS_weak (ps_ret (pe_var h1 h2 h3 h4)) fun D σ H ⟨B, hh, k⟩ => ?_
  obtain ⟨p, e, q⟩ := hh.sl i _ hs
  have ow : OwnA S σ p := ⟨i, _, hs, rfl, e⟩
  refine ⟨_, e, k _ σ H hh Rel.refl ⟨p, rfl, .inl ow, fun j o' ej z => ?_, q.car (Car.imp fun a z => ?_) fun _ e => e⟩⟩
  · have := hh.inj i j _ _ p hs ej rfl rfl e z
    subst this
    rw [hs] at ej; cases ej
  · rcases z with z | z | z
    · exact .inl z
    · exact .inr z
    · rw [z]; exact .inl ow
theorem ds_if {c : Expr} (h : DT G c S k1 S1) (h1 : k1 = true → DSs G sts S1 R) (h2 : k1 = false → DSs G sts2 S1 R) : DS G (.If c sts sts2 pos) S R := fun X ok => by
  cases k1 with
  | true => exact PS_weak (ps_if (h X ok) (h1 rfl X ok) (u := tNever) pss_never) fun D σ H ⟨B, hh, k⟩ => ⟨B, hh, fun H1 hh1 r1 => tT_ite (fun _ => ⟨B, hh1, k.pre r1⟩) fun z => by cases z⟩
  | false => exact PS_weak (ps_if (h X ok) (t := tNever) pss_never (h2 rfl X ok)) fun D σ H ⟨B, hh, k⟩ => ⟨B, hh, fun H1 hh1 r1 => tT_ite (fun z => by cases z) fun _ => ⟨B, hh1, k.pre r1⟩⟩
/-! ### stores -/
def noIo (S : List Sl) (i : Nat) : Bool := match S[i]? with
  | some (.io _) => false
  | _ => true
theorem noIo_of (h : noIo S i = true) : ∀ o, S[i]? ≠ some (Sl.io o) := fun o e => by
  unfold noIo at h
  rw [e] at h; cases h
theorem elem_mem {l : List Str} {x : Str} (h : l.elem x = true) : x ∈ l := List.elem_iff.mp h
theorem ds_set {x : Str} (hx : G.tab.lookup x = some i) (hl : G.loc.elem x = true) (he : DE G e S d S1) (hio : noIo S1 i = true := by rfl) (hs : ∀ env, swapsWith e (some (.Name x p1)) pos.line env = Pure.pure false := by intro _; rfl) : DS G (.Assign [.Name x p1] e pos) S (.nx (S1.set i (.dat d))) := fun X ok => by
  obtain ⟨h1, _⟩ := ok.var hx
  obtain ⟨l1, l2⟩ := ok.st (elem_mem hl)
  exact PS_weak (ps_set ok.nd h1 l1 (he X ok) (hs _) l2) fun D σ H ⟨B, hh, k⟩ => ⟨B, hh, fun v H1 h1 r1 q1 => k _ H1 (h1.setD q1) (r1.trans (Rel.set (noIo_of hio) rfl rfl fun z => by cases z))⟩
theorem Holds.setP (hh : Holds K B S σ H) (r1 : Rel S σ H S1 σ H') (hp : H p = none) (n : ¬ OwnA S1 σ p) (h1 : Holds K (Bp B p) S1 σ H') (q1 : ObAt K (Av S1 σ (Bp B p)) H' p o) (hio : noIo S1 i = true) :
    Holds K B (S1.set i (.own o)) (σ.set i (some (.ref p))) H' ∧ Rel S σ H (S1.set i (.own o)) (σ.set i (some (.ref p))) H' := by
  refine ⟨h1.setO q1 n fun j s e hl => r1.lentP hh hp e hl, ?_⟩
  have r2 : Rel S σ H S1 σ H' := r1
  refine ⟨r2.keep, fun a z => ?_, fun j o e => ?_, List.length_set.trans r2.len, fun j o e => ?_, fun j t e ht => ?_, r2.dom⟩
  · rcases ownA_set z with ⟨_, z⟩ | z
    · cases z; exact .inr hp
    · exact r2.own a z
  · obtain ⟨e1, o1, e2⟩ := r2.ios j o e
    have ne : i ≠ j := fun z => by subst z; exact noIo_of hio o1 e2
    exact ⟨by rw [List.getElem?_set_ne ne], o1, by rw [List.getElem?_set_ne ne]; exact e2⟩
  · rcases get_set e with ⟨rfl, e2, _⟩ | ⟨ne, e⟩
    · cases e2
    · exact r2.iob j o e
  · rcases get_set e with ⟨rfl, e2, _⟩ | ⟨ne, e⟩
    · subst e2; cases ht
    · obtain ⟨a1, a2⟩ := r2.fix j t e ht
      exact ⟨a1, by rw [List.getElem?_set_ne ne]⟩
theorem ds_setO {x : Str} (hx : G.tab.lookup x = some i) (hl : G.loc.elem x = true) (he : DF G e S o S1) (hio : noIo S1 i = true := by rfl) (hs : ∀ env, swapsWith e (some (.Name x p1)) pos.line env = Pure.pure false := by intro _; rfl) : DS G (.Assign [.Name x p1] e pos) S (.nx (S1.set i (.own o))) := fun X ok => by
  obtain ⟨h1, _⟩ := ok.var hx
  obtain ⟨l1, l2⟩ := ok.st (elem_mem hl)
  exact PS_weak (ps_set ok.nd h1 l1 (he X ok) (hs _) l2) fun D σ H ⟨B, hh, k⟩ => ⟨B, hh, fun p H1 hp n h1 r1 q1 => by
    obtain ⟨a1, a2⟩ := Holds.setP hh r1 hp n h1 q1 hio
    exact k _ H1 a1 a2⟩
theorem ds_expr (he : DE G e S d S1) (hs : ∀ env, swapsWith e none pos.line env = Pure.pure false := by intro _; rfl) : DS G (.Expr e pos) S (.nx S1) := fun X ok =>
  PS_weak (ps_expr (he X ok) (hs _)) fun D σ H ⟨B, hh, k⟩ => ⟨B, hh, fun v H1 h1 r1 q1 => k σ H1 h1 r1⟩
theorem ds_break : DS G (.Break pos) S (.bk S) := fun X ok => PS_weak ps_break fun D σ H ⟨B, hh, k⟩ => k σ H hh Rel.refl
/-! targets -/
theorem dg_name {x : Str} (hx : G.tab.lookup x = some i) (hl : G.loc.elem x = true) (hio : noIo S i = true := by rfl) : DG G (.Name x pos) [i] S d (S.set i (.dat d)) := fun X ok => by
  obtain ⟨h1, _⟩ := ok.var hx
  obtain ⟨l1, l2⟩ := ok.st (elem_mem hl)
  exact PG_weak (pg_name ok.nd h1 l1 l2) fun v σ H Q ⟨B, hh, q, k⟩ => k _ H (hh.setD q) (Rel.set (noIo_of hio) rfl rfl fun z => by cases z) fun j hj => List.getElem?_set_ne fun z => hj (by rw [z]; exact List.mem_singleton.mpr rfl)
theorem dgs_nil : DGs G [] [] S [] S := fun X ok => PGs_weak pgs_nil fun vs σ H Q ⟨B, hh, q, k⟩ => by
  cases q
  exact ⟨rfl, k σ H hh Rel.refl fun _ _ => rfl⟩
theorem dgs_cons {ix iy : List Nat} (h1 : DG G e ix S d S1) (h2 : DGs G es iy S1 ds S2) (hs : ∀ env, (assignEach (e :: es) env).map (·.2) = assign e env :: (assignEach es env).map (·.2) := by intro _; rfl) : DGs G (e :: es) (ix ++ iy) S (d :: ds) S2 := fun X ok =>
  PGs_weak (pgs_cons (h1 X ok) (h2 X ok) (hs _)) fun vs σ H Q ⟨B, hh, q, k⟩ => by
    cases q with
    | cons q1 q2 => exact ⟨_, _, rfl, B, hh, q1, fun σ1 H1 hh1 r1 u1 => ⟨B, hh1, q2.car r1.car, fun σ2 H2 hh2 r2 u2 => k σ2 H2 hh2 (r1.trans r2) fun j hj => (u2 j fun z => hj (List.mem_append_right _ z)).trans (u1 j fun z => hj (List.mem_append_left _ z))⟩⟩
theorem dg_tup {j : Nat} {ix : List Nat} (h : DGs G es ix S ds S1) (hn : ∀ env, (assignEach es env).length = ds.length := by intro _; rfl) (hst : ∀ env, (assignEach es env).findIdx? (·.1) = none := by intro _; rfl) : DG G (.Tuple es j pos) ix S (.tuple ds) S1 := fun X ok =>
  PG_weak (pg_tup ok.calm (h X ok) (hn _) (hst _)) fun v σ H Q ⟨B, hh, q, k⟩ => by
    cases q with
    | tup h r => exact ⟨_, _, rfl, h.sq, r.length, B, hh, r, k⟩
/-- target = e -/
theorem ds_asg {tg : Expr} {ix : List Nat} (he : DE G e S d S1) (hg : DG G tg ix S1 d S2) (hs : ∀ env, swapsWithSole [tg] e pos.line env = Pure.pure false := by intro _; rfl) (hw : ∀ env, swappedStores [tg] e env = Pure.pure none := by intro _; rfl)
    (h1 : ∀ env, (assignEach [tg] env).map (·.2) = [assign tg env] := by intro _; rfl) : DS G (.Assign [tg] e pos) S (.nx S2) := fun X ok =>
  PS_weak (ps_asg (he X ok) (hg X ok) (hs _) (hw _) (h1 _)) fun D σ H ⟨B, hh, k⟩ => ⟨B, hh, fun v H1 h1 r1 q1 => ⟨B, h1, q1, fun σ2 H2 h2 r2 _ => k σ2 H2 h2 (r1.trans r2)⟩⟩
end
end Pw
namespace Pw
open PySem PySem.Spec L2

/-! ### defs -/
section
variable {P : Program} {w : World} {K : PySem.W.Frag} {mg : Str → Option Value} {base : Heap}
def Rt.pur : Rt → Bool
  | .dat d => Pw.pur d
  | .own o => o.pur
/-- a def that keeps its promise, under its name -/
def Has (P : Program) (w : World) (K : PySem.W.Frag) (mg : Str → Option Value) (base : Heap) (k : Nat) (x : Str) (n : Nat) (C : Contract) : Prop :=
  ∃ f fd ps, mg x = some (.ref f) ∧ PySem.W.keepIn K (.ref f) = true ∧ Binds K fd ps [] ∧ FnOk P w K mg base CX0 k f fd ps (spC K n C)
theorem get_app_l {α : Type} {l m : List α} {i : Nat} {x : α} (h : l[i]? = some x) : (l ++ m)[i]? = some x := by
  rw [List.getElem?_append_left (List.getElem?_eq_some_iff.mp h).1]
  exact h
theorem fn_ok {C : Contract} {n k : Nat} {x qual : Str} {st : Stmt} {f : Addr} {fd : FuncData} {N ps : List Str} {G : Cxt} (F : Fun K x qual st f fd) (Sc : FnScope N ps (defScope st)) (hn : ps.length = n) (hc : G.chk = true) (hN : G.N = N) (hs : G.sc = defScope st) (hf : G.fnc = fun _ => true)
    (hb : ∀ x ∈ G.blt ++ G.hid, mg x = none) (hfn : ∀ x m C, (G.fns ++ G.hfns).lookup x = some (m, C) → Has P w K mg base k x m C)
    (body : ∀ T r T', C T r T' → T.length = n → T'.length = n → DSs G (defBody st) (T ++ List.replicate (N.length - n) .un) (.ret r (T' ++ List.replicate (N.length - n) .un)))
    (outs : ∀ T r T', C T r T' → r.pur = true ∧ ∀ s ∈ T', outSl s = true) (hcn : ∀ x d, G.cns.lookup x = some d → CnOk K mg d x := by intro x d h; cases h) (hbf : ∀ x id, G.bfs.lookup x = some id → mg x = some (.builtin id) := by intro x d h; cases h) : FnOk P w K mg base CX0 (k + 1) f fd ps (spC K n C) := by
  refine F.ok Sc (fun vs H Q E h => ?_) fun cdv A outer s H vs Q E hr h => ?_
  · obtain ⟨T, r, T', _, hT, _, _, hh, _⟩ := h
    have := hh.len
    rw [List.length_map] at this
    omega
  · obtain ⟨T, r, T', hC, hT, hT', hp, hh, kk⟩ := h
    have ok : G.Ok (cxOf CX0 P w K mg base N qual (defScope st) f cdv A outer s H E).nox := by
      refine ⟨hc, hN.symm, hs.symm, fun _ _ => rfl, rfl, rfl, ?_, hb, fun x m C e => ?_, hcn, hbf⟩
      · show (A.deeper _).units + 200 < cLine
        have := hr.un
        omega
      · obtain ⟨f, fd, ps, h1, h2, h3, h4⟩ := hfn x m C e
        exact ⟨f, fd, k, ps, h1, h2, h3, h4, hr⟩
    have hvl : vs.length = n := by
      have := hh.len
      rw [List.length_map] at this
      omega
    refine ⟨_, body T r T' hC hT hT' _ ok, ?_⟩
    have st0 : L2.start N vs = vs.map some ++ List.replicate (N.length - n) none := by
      unfold L2.start
      rw [hvl]
    have ownT : ∀ a, OwnA (T ++ List.replicate (N.length - n) .un) (L2.start N vs) a → OwnA T (vs.map some) a := fun a ⟨i, t, e, ht, er⟩ => by
      by_cases hi : i < T.length
      · rw [List.getElem?_append_left hi] at e
        rw [st0, List.getElem?_append_left (by rw [List.length_map]; omega)] at er
        exact ⟨i, t, e, ht, er⟩
      · rw [List.getElem?_append_right (by omega), List.getElem?_replicate] at e
        split at e
        · cases e; cases ht
        · cases e
    have ownT' : ∀ a, OwnA T (vs.map some) a → OwnA (T ++ List.replicate (N.length - n) .un) (L2.start N vs) a := fun a ⟨i, t, e, ht, er⟩ => ⟨i, t, get_app_l e, ht, by rw [st0]; exact get_app_l er⟩
    have avT : ∀ a, Av (T ++ List.replicate (N.length - n) .un) (L2.start N vs) (fun _ => False) a → Av T (vs.map some) (fun _ => False) a := fun a z => z.imp (ownT a) id
    have h0 : Holds K (fun _ => False) (T ++ List.replicate (N.length - n) .un) (L2.start N vs) H := by
      refine ⟨?_, fun i t e => ?_, fun i j t u a e1 e2 o1 o2 r1 r2 => ?_, fun _ z => z.elim⟩
      · rw [st0, List.length_append, List.length_append, List.length_replicate, List.length_replicate, List.length_map]
        omega
      · by_cases hi : i < T.length
        · rw [List.getElem?_append_left hi] at e
          rw [st0, List.getElem?_append_left (by rw [List.length_map]; omega), ← st0]
          exact (hh.sl i t e).car (Car.imp avT) (fun a u n e => ⟨fun z => n (ownT a z), e⟩) fun _ _ _ _ e => e
        · rw [List.getElem?_append_right (by omega), List.getElem?_replicate] at e
          split at e
          · cases e; trivial
          · cases e
      · have low : ∀ {i : Nat} {t : Sl}, (T ++ List.replicate (N.length - n) Sl.un)[i]? = some t → own? t = true → i < T.length := fun {i t} e ho => by
          by_cases hi : i < T.length
          · exact hi
          · rw [List.getElem?_append_right (by omega), List.getElem?_replicate] at e
            split at e
            · cases e; cases ho
            · cases e
        have l1 := low e1 o1
        have l2 := low e2 o2
        rw [List.getElem?_append_left l1] at e1
        rw [List.getElem?_append_left l2] at e2
        rw [st0, List.getElem?_append_left (by rw [List.length_map]; omega)] at r1 r2
        exact hh.inj i j t u a e1 e2 o1 o2 r1 r2
    refine ⟨fun _ => False, h0, fun v σ' H' h' r' q => kk v H' ?_⟩
    obtain ⟨pu, os⟩ := outs T r T' hC
    have low' : ∀ (i : Nat) (o : Ob), T'[i]? = some (Sl.io o) → (T' ++ List.replicate (N.length - n) Sl.un)[i]? = some (Sl.io o) := fun i o e => get_app_l e
    have ioT : ∀ (i : Nat) (o : Ob), (T ++ List.replicate (N.length - n) Sl.un)[i]? = some (Sl.io o) → T[i]? = some (Sl.io o) := fun i o e => by
      by_cases hi : i < T.length
      · rwa [List.getElem?_append_left hi] at e
      · rw [List.getElem?_append_right (by omega), List.getElem?_replicate] at e
        split at e
        · cases e
        · cases e
    have ioT' : ∀ (i : Nat) (o : Ob), (T' ++ List.replicate (N.length - n) Sl.un)[i]? = some (Sl.io o) → T'[i]? = some (Sl.io o) := fun i o e => by
      by_cases hi : i < T'.length
      · rwa [List.getElem?_append_left hi] at e
      · rw [List.getElem?_append_right (by omega), List.getElem?_replicate] at e
        split at e
        · cases e
        · cases e
    have io_at : ∀ (i : Nat) (o' : Ob), T'[i]? = some (Sl.io o') → ∃ o, T[i]? = some (Sl.io o) ∧ σ'[i]? = (vs.map some)[i]? := fun i o' e => by
      obtain ⟨o, e1⟩ := r'.iob i o' (low' i o' e)
      have e2 := ioT i o e1
      refine ⟨o, e2, (r'.ios i o e1).1.trans ?_⟩
      rw [st0, List.getElem?_append_left (by rw [List.length_map]; have := (List.getElem?_eq_some_iff.mp e2).1; omega)]
    refine ⟨fun a u e n => r'.keep a u e fun z => n (ownT a z), ⟨by rw [List.length_map]; omega, fun i t e => ?_, fun i j t u a e1 e2 o1 o2 r1 r2 => ?_, fun _ z => z.elim⟩, os, fun i => ⟨fun ⟨o, e⟩ => ?_, fun ⟨o', e⟩ => ?_⟩, ?_⟩
    · have ho := os t (List.mem_of_getElem? e)
      cases t with
      | un => trivial
      | io o =>
        obtain ⟨o0, e0, eσ⟩ := io_at i o e
        obtain ⟨a, er, q⟩ := h'.sl i _ (low' i o e)
        refine ⟨a, by rw [← eσ]; exact er, ?_⟩
        have sub : ∀ b, Av T' (vs.map some) (fun _ => False) b → Av (T' ++ List.replicate (N.length - n) .un) σ' (fun _ => False) b := fun b z => by
          rcases z with ⟨j, u, e2, hu, er2⟩ | z
          · have hu2 := os u (List.mem_of_getElem? e2)
            cases u with
            | io o2 =>
              obtain ⟨_, _, eσ2⟩ := io_at j o2 e2
              exact .inl ⟨j, _, low' j o2 e2, rfl, by rw [eσ2]; exact er2⟩
            | _ => first | exact absurd hu2 Bool.false_ne_true | exact absurd hu Bool.false_ne_true
          · exact z.elim
        exact q.car (Car.imp sub) fun _ e => e
      | _ => cases ho
    · have f : ∀ (i : Nat) (t : Sl), T'[i]? = some t → own? t = true → ∃ o, t = .io o := fun i t e ho => by
        have h2 := os t (List.mem_of_getElem? e)
        cases t with
        | io o => exact ⟨o, rfl⟩
        | _ => first | exact absurd ho Bool.false_ne_true | exact absurd h2 Bool.false_ne_true
      obtain ⟨oa, rfl⟩ := f i t e1 o1
      obtain ⟨ob, rfl⟩ := f j u e2 o2
      obtain ⟨_, _, s1⟩ := io_at i _ e1
      obtain ⟨_, _, s2⟩ := io_at j _ e2
      exact h'.inj i j _ _ a (low' i _ e1) (low' j _ e2) rfl rfl (by rw [s1]; exact r1) (by rw [s2]; exact r2)
    · obtain ⟨_, o', e2⟩ := r'.ios i o (get_app_l e)
      exact ⟨o', ioT' i o' e2⟩
    · obtain ⟨o, e1, _⟩ := io_at i o' e
      exact ⟨o, e1⟩
    · cases r with
      | dat d => exact ⟨pu, Rep.car (Car.imp fun _ z => z.elim) q⟩
      | own o =>
        obtain ⟨p, ev, hf, hio, q⟩ := q
        refine ⟨p, ev, ?_, pu, q.car (Car.imp fun _ z => z.elim) fun _ e => e⟩
        rcases hf with hf | hf
        · obtain ⟨i, t, e, ht, er⟩ := ownT p hf
          have hpt := hp t (List.mem_of_getElem? e)
          cases t with
          | io o1 =>
            obtain ⟨e1, o2, e2⟩ := r'.ios i o1 (get_app_l e)
            refine absurd ?_ (hio i o2 e2)
            rw [e1, st0]
            exact get_app_l er
          | own _ => cases hpt
          | _ => cases ht
        · exact hf
theorem has_mk {C : Contract} {n k : Nat} {x qual : Str} {st : Stmt} {f : Addr} {fd : FuncData} {ps : List Str} (F : Fun K x qual st f fd) (hm : mg x = some (.ref f)) (hb : Binds K fd ps []) (h : FnOk P w K mg base CX0 k f fd ps (spC K n C)) : Has P w K mg base k x n C := ⟨f, fd, ps, hm, F.kp, hb, h⟩
theorem Has.mono {C : Contract} {n j k : Nat} {x : Str} (h : Has P w K mg base j x n C) (l : j ≤ k) : Has P w K mg base k x n C := by
  obtain ⟨f, fd, ps, h1, h2, h3, h4⟩ := h
  exact ⟨f, fd, ps, h1, h2, h3, h4.mono l⟩
end

/-! ### lengths -/
def LenOk (K : PySem.W.Frag) (H : Hp) : Prop := ∀ a xs, (SqL K H a xs ∨ SqT K H a xs) → xs.length ≤ sizeLine
theorem len_ok {X : Cx} {pins : List (Addr × Obj)} {σ : L2.St} {H : Hp} {s : Shared} (I : Inv X pins σ H s) : LenOk X.K H := fun a xs h => by
  rcases h with h | h
  · obtain ⟨_, _, _, z⟩ := I.list h
    exact z
  · obtain ⟨_, _, _, z⟩ := I.tuple h
    exact z
theorem PI_len {X : Cx} {tg e : Expr} {t t' : TI} (h : PI X tg e t) (w : ∀ σ H R, t' σ H R → t σ H fun J H1 => LenOk X.K H1 → R J H1) : PI X tg e t' := ⟨fun pins s σ H R I q =>
  thn (h.run pins s σ H _ I (w σ H R q)) fun v s1 q1 => thn q1 fun itv s2 ⟨it, fp, tn, J, H', e, I', T, t0, f, r⟩ => ⟨it, fp, tn, J, H', e, I', T, t0, f, r (len_ok I')⟩⟩
theorem PE_len {X : Cx} {e : Expr} {t t' : TE} (h : PE X e t) (w : ∀ σ H Q, t' σ H Q → t σ H fun v H1 => LenOk X.K H1 → Q v H1) : PE X e t' := ⟨fun pins s σ H Q I q =>
  thn (h.run pins s σ H _ I (w σ H Q q)) fun v s1 ⟨x, H', I', r, q⟩ => ⟨x, H', I', r, q (len_ok I')⟩⟩
end Pw
namespace Pw
open PySem PySem.Spec L2

/-! ### loops, as plain functions -/
inductive Out (ρ τ : Type) where
  | nx (t : τ)
  | bk (t : τ)
  | ret (r : ρ)
section
variable {α τ ρ β : Type}
def loopM (step : τ → α → Option (Out ρ τ)) : τ → List α → Option (Out ρ τ)
  | t, [] => some (.nx t)
  | t, x :: xs => match step t x with
    | none => none
    | some (.nx t') => loopM step t' xs
    | some (.bk t') => some (.nx t')
    | some (.ret r) => some (.ret r)
def whileM (cond : τ → Option Bool) (step : τ → Option (Out ρ τ)) : Nat → τ → Option (Out ρ τ)
  | 0, _ => none
  | n + 1, t => match cond t with
    | none => none
    | some false => some (.nx t)
    | some true => match step t with
      | none => none
      | some (.nx t') => whileM cond step n t'
      | some (.bk t') => some (.nx t')
      | some (.ret r) => some (.ret r)
def consO (o : Option β) (ys : List β) : List β := match o with
  | none => ys
  | some y => y :: ys
/-- a comprehension: its items, and what it changes -/
def compM (step : τ → α → Option (Option β × τ)) : τ → List α → Option (List β × τ)
  | t, [] => some ([], t)
  | t, x :: xs => match step t x with
    | none => none
    | some (o, t1) => match compM step t1 xs with
      | none => none
      | some (ys, t2) => some (consO o ys, t2)
end
section
variable {α τ ρ β ι : Type} {G : Cxt} {S S' S1 S2 : List Sl} {iter tg c e : Expr} {body : List Stmt} {pos : Pos} {K : PySem.W.Frag} {B : AP} {σ σ' : L2.St} {H H' : Hp} {ds : List PyData} {v : V}
theorem PG_ex {X : Cx} {p : ι → Prop} {g : ι → TG} (h : ∀ i, p i → PG X e (g i)) : PG X e (fun v σ H Q => ∃ i, p i ∧ g i v σ H Q) := ⟨fun pins s σ H v u Q I r ⟨i, pi, q⟩ => (h i pi).run pins s σ H v u Q I r q⟩
theorem PSs_ex {X : Cx} {p : ι → Prop} {g : ι → TS} (h : ∀ i, p i → PSs X body (g i)) : PSs X body (fun D σ H => ∃ i, p i ∧ g i D σ H) := ⟨fun pins s σ H D I ⟨i, pi, q⟩ => (h i pi).run pins s σ H D I q⟩
theorem PE_ex {X : Cx} {p : ι → Prop} {g : ι → TE} (h : ∀ i, p i → PE X e (g i)) : PE X e (fun σ H Q => ∃ i, p i ∧ g i σ H Q) := ⟨fun pins s σ H Q I ⟨i, pi, q⟩ => (h i pi).run pins s σ H Q I q⟩
theorem PT_ex {X : Cx} {p : ι → Prop} {g : ι → TT} (h : ∀ i, p i → PT X e (g i)) : PT X e (fun σ H Q => ∃ i, p i ∧ g i σ H Q) := ⟨fun pins s σ H Q I ⟨i, pi, q⟩ => (h i pi).run pins s σ H Q I q⟩
theorem passes {X : Cx} (ok : G.Ok X) : PassesOwn (model X.prog X.w) X.A X.env X.xe := by
  rw [ok.xe]
  exact PassesOwn.never
def rzo (slots : τ → List Sl) (rt : ρ → Rt) (rs : ρ → List Sl) : Out ρ τ → Rz
  | .nx t => .nx (slots t)
  | .bk t => .bk (slots t)
  | .ret r => .ret (rt r) (rs r)
/-- the item that a turn yields, as it stands behind the turn's begin -/
theorem item_now {S0 : List Sl} {σ0 : L2.St} {H0 H2 : Hp} {d : PyData} {x : V} (r : Rel S0 σ0 H0 S σ H2) (h : Holds K B S σ H2) (q : Rep K (Av S0 σ0 B) H0 x d ∨ (pur d = true ∧ Rep K (fun _ => False) H2 x d)) : Rep K (Av S σ B) H2 x d := by
  rcases q with q | ⟨p, q⟩
  · exact q.car r.car
  · exact q.carP (ctup h) p
theorem ds_for {ix : List Nat} {f : α → PyData} {xs : List α} {t0 : τ} {step : τ → α → Option (Out ρ τ)} {slots : τ → List Sl} {tgt : τ → α → List Sl} {rt : ρ → Rt} {rs : ρ → List Sl} {out : Out ρ τ} (hi : DI G tg iter S (xs.map f) S1) (h0 : Wk S1 (slots t0))
    (hg : ∀ t x, x ∈ xs → DG G tg ix (slots t) (f x) (tgt t x)) (hb : ∀ t x out, x ∈ xs → step t x = some out → DSs G body (tgt t x) (rzo slots rt rs out)) (hl : loopM step t0 xs = some out)
    (hs : ∀ env x, foldedSetIterable iter env x = Pure.pure x := by intro _ _; rfl) : DS G (.For tg iter body [] pos) S (rzo slots rt rs (match out with | .bk t => .nx t | o => o)) := fun X ok => by
  refine PS_weak (ps_for (passes ok) ok.calm (hi X ok) (PG_ex (ι := τ × α) (p := fun i => i.2 ∈ xs) fun i hx => hg i.1 i.2 hx X ok)
    (PSs_ex (ι := τ × α × Out ρ τ) (p := fun i => i.2.1 ∈ xs ∧ step i.1 i.2.1 = some i.2.2) fun i hx => hb i.1 i.2.1 i.2.2 hx.1 hx.2 X ok) (hs _)) fun D σ0 H0 ⟨B, hh, k⟩ => ⟨B, hh, fun J H1 h1 r1 jk => ?_⟩
  refine ⟨fun i m σ H => m = xs.length - i ∧ i ≤ xs.length ∧ ∃ t, loopM step t (xs.drop i) = some out ∧ Holds X.K B (slots t) σ H ∧ Rel S1 σ0 H1 (slots t) σ H, ⟨_, rfl, Nat.zero_le _, t0, by rw [List.drop_zero]; exact hl, h1.wk h0, Rel.refl.wk h0⟩, ?_⟩
  rintro i m σ H ⟨rfl, hi, t, ht, hh2, r2⟩
  obtain ⟨j1, j2⟩ := jk H r2.keep
  by_cases hlt : i < xs.length
  · have ed : xs.drop i = xs[i] :: xs.drop (i + 1) := List.drop_eq_getElem_cons hlt
    rw [ed] at ht
    have hx : xs[i] ∈ xs := List.getElem_mem hlt
    obtain ⟨go, yl⟩ := j1 i (f xs[i]) (by rw [List.getElem?_map, List.getElem?_eq_getElem hlt]; rfl)
    unfold loopM at ht
    cases hst : step t xs[i] with
    | none => rw [hst] at ht; cases ht
    | some o1 =>
      rw [hst] at ht
      refine .inr ⟨go, fun σ' H' => ∃ t', o1 = .nx t' ∧ loopM step t' (xs.drop (i + 1)) = some out ∧ Holds X.K B (slots t') σ' H' ∧ Rel S1 σ0 H1 (slots t') σ' H', fun σ' H' ⟨t', _, q1, q2, q3⟩ => ⟨_, by omega, rfl, hlt, t', q1, q2, q3⟩, fun x H2 hy => ?_⟩
      obtain ⟨ks, rq⟩ := yl x H2 hy
      have hh3 := hh2.same ks
      have r3 : Rel S1 σ0 H1 (slots t) σ H2 := r2.trans (Rel.same ks)
      refine ⟨(t, xs[i]), hx, B, hh3, item_now r3 hh3 rq, fun σ2 H3 hh4 r4 _ => ⟨(t, xs[i], o1), ⟨hx, hst⟩, B, hh4, ?_⟩⟩
      cases o1 with
      | nx t' => exact fun σ' H' h' r' => ⟨t', rfl, ht, h', (r3.trans r4).trans r'⟩
      | bk t' =>
        have e : out = .nx t' := (Option.some.inj ht).symm
        subst e
        exact fun σ' H' h' r' => k σ' H' h' (((r1.trans r3).trans r4).trans r')
      | ret r =>
        have e : out = .ret r := (Option.some.inj ht).symm
        subst e
        exact fun v σ' H' h' r' q => k v σ' H' h' (((r1.trans r3).trans r4).trans r') (q.pre ((r1.trans r3).trans r4))
  · have e : i = xs.length := by omega
    subst e
    rw [List.drop_length] at ht
    have e : out = .nx t := (Option.some.inj ht).symm
    subst e
    exact .inl ⟨j2 _ (by rw [List.length_map]; exact Nat.le_refl _), k σ H hh2 (r1.trans r2)⟩
theorem ds_while {n : Nat} {t0 : τ} {cond : τ → Option Bool} {step : τ → Option (Out ρ τ)} {slots : τ → List Sl} {rt : ρ → Rt} {rs : ρ → List Sl} {out : Out ρ τ} (h0 : Wk S (slots t0)) (hc : ∀ t b, cond t = some b → DT G c (slots t) b (slots t))
    (hb : ∀ t out, step t = some out → DSs G body (slots t) (rzo slots rt rs out)) (hl : whileM cond step n t0 = some out) : DS G (.While c body [] pos) S (rzo slots rt rs (match out with | .bk t => .nx t | o => o)) := fun X ok => by
  refine PS_weak (ps_while (passes ok) (PT_ex (ι := τ × Bool) (p := fun i => cond i.1 = some i.2) fun i hx => hc i.1 i.2 hx X ok)
    (PSs_ex (ι := τ × Out ρ τ) (p := fun i => step i.1 = some i.2) fun i hx => hb i.1 i.2 hx X ok)) fun D σ0 H0 ⟨B, hh, k⟩ => ?_
  refine ⟨fun m σ H => ∃ t, whileM cond step m t = some out ∧ Holds X.K B (slots t) σ H ∧ Rel S σ0 H0 (slots t) σ H, ⟨n, t0, hl, hh.wk h0, Rel.refl.wk h0⟩, ?_⟩
  rintro m σ H ⟨t, ht, hh2, r2⟩
  cases m with
  | zero => cases ht
  | succ m =>
    unfold whileM at ht
    cases hcd : cond t with
    | none => rw [hcd] at ht; cases ht
    | some b =>
      rw [hcd] at ht
      refine ⟨(t, b), hcd, B, hh2, fun H1 hh3 r3 => tT_ite (fun hb1 => ?_) fun hb1 => ?_⟩
      · have hb1 : b = true := hb1
        subst hb1
        cases hst : step t with
        | none => rw [hst] at ht; cases ht
        | some o1 =>
          rw [hst] at ht
          refine ⟨fun σ' H' => ∃ t', o1 = .nx t' ∧ whileM cond step m t' = some out ∧ Holds X.K B (slots t') σ' H' ∧ Rel S σ0 H0 (slots t') σ' H', fun σ' H' ⟨t', _, q1, q2, q3⟩ => ⟨m, Nat.lt_succ_self m, t', q1, q2, q3⟩, (t, o1), hst, B, hh3, ?_⟩
          cases o1 with
          | nx t' => exact fun σ' H' h' r' => ⟨t', rfl, ht, h', (r2.trans r3).trans r'⟩
          | bk t' =>
            have e : out = .nx t' := (Option.some.inj ht).symm
            subst e
            exact fun σ' H' h' r' => k σ' H' h' ((r2.trans r3).trans r')
          | ret r =>
            have e : out = .ret r := (Option.some.inj ht).symm
            subst e
            exact fun v σ' H' h' r' q => k v σ' H' h' ((r2.trans r3).trans r') (q.pre (r2.trans r3))
      · have hb1 : b = false := hb1
        subst hb1
        have e : out = .nx t := (Option.some.inj ht).symm
        subst e
        exact k σ H1 hh3 (r2.trans r3)

/-! ### what is walked -/
theorem JOk_of {J : It} (h : ∀ H1, (∀ a o, H a = some o → ¬ OwnA S σ a → H1 a = some o) → (∀ (i : Nat) d, ds[i]? = some d → J.go i H1 ∧ ∀ x H2, J.yld i H1 x H2 → H2 = H1 ∧ Rep K (Av S σ B) H x d) ∧ (∀ i : Nat, ds.length ≤ i → J.stop i H1)) : JOk K S σ B H J ds := fun H1 k => by
  obtain ⟨h1, h2⟩ := h H1 k
  refine ⟨fun i d e => ?_, h2⟩
  obtain ⟨g, y⟩ := h1 i d e
  refine ⟨g, fun x H2 q => ?_⟩
  obtain ⟨rfl, r⟩ := y x H2 q
  exact ⟨fun _ _ e => e, .inl r⟩
theorem sq_keepL {a : Addr} {xs : List V} (h : LAt K (OwnA S σ) H a xs) (k : ∀ a o, H a = some o → ¬ OwnA S σ a → H' a = some o) : SqL K H' a xs := by
  rcases h with ⟨n, h⟩ | h | h
  · exact .inl (rd_keep (fun o e => k a o e n) h)
  · exact (rd_none h).elim
  · exact .inr h
theorem sq_keepT {A : AP} {a : Addr} {xs : List V} (h : TAt K A H a xs) (sub : ∀ a, OwnA S σ a → A a) (k : ∀ a o, H a = some o → ¬ OwnA S σ a → H' a = some o) : SqT K H' a xs := by
  rcases h with h | ⟨o, its, n, h1, h2, _, h4, h5⟩
  · exact .inl (rd_keep (fun o e => k a o e fun z => h.1 (sub a z)) h.2.rd)
  · exact .inr ⟨o, its, n, h1, h2, h4, h5⟩
theorem di_list (he : DB G e S (.lst ds) S1) (hz : ds.length ≤ sizeLine → True := by intro _; trivial) : DI G tg e S ds S1 := fun X ok => by
  refine PI_weak (pi_list (he X ok)) fun σ H R ⟨B, hh, k⟩ => ⟨B, hh, fun a H1 h1 r1 ⟨xs, la, rs⟩ => ⟨a, rfl, ⟨xs, la.sq⟩, ?_⟩⟩
  refine k _ H1 h1 r1 (JOk_of fun H2 kk => ⟨fun i d ed => ?_, fun i hi => ⟨xs, sq_keepL la kk, by rw [rs.length]; exact hi⟩⟩)
  obtain ⟨v, ev, rv⟩ := rs.get ed
  exact ⟨⟨xs, v, sq_keepL la kk, ev⟩, fun x H3 ⟨e1, e2⟩ => ⟨e1, by
    have := e2 xs (sq_keepL la kk)
    rw [ev] at this; cases this
    exact rv⟩⟩
theorem di_tup (he : DE G e S (.tuple ds) S1) : DI G tg e S ds S1 := fun X ok => by
  refine PI_weak (pi_tup (he X ok)) fun σ H R ⟨B, hh, k⟩ => ⟨B, hh, fun v H1 h1 r1 q => ?_⟩
  cases q with
  | @tup a xs _ la rs =>
    refine ⟨a, rfl, ⟨xs, la.sq⟩, ?_⟩
    have sub : ∀ a, OwnA S1 σ a → Av S1 σ B a := fun _ z => .inl z
    refine k _ H1 h1 r1 (JOk_of fun H2 kk => ⟨fun i d ed => ?_, fun i hi => ⟨xs, sq_keepT la sub kk, by rw [rs.length]; exact hi⟩⟩)
    obtain ⟨v, ev, rv⟩ := rs.get ed
    exact ⟨⟨xs, v, sq_keepT la sub kk, ev⟩, fun x H3 ⟨e1, e2⟩ => ⟨e1, by
      have := e2 xs (sq_keepT la sub kk)
      rw [ev] at this; cases this
      exact rv⟩⟩
/-- lo, lo + 1, .. -/
def rng (lo hi : Int) : List Int := (List.range (hi - lo).toNat).map fun (i : Nat) => lo + (i : Int)
theorem rng_len {lo hi : Int} : (rng lo hi).length = (hi - lo).toNat := by unfold rng; rw [List.length_map, List.length_range]
theorem rng_at {lo hi : Int} {i : Nat} (h : i < (hi - lo).toNat) : (rng lo hi)[i]? = some (lo + (i : Int)) := by
  unfold rng
  rw [List.getElem?_map, List.getElem?_range h]
  rfl
theorem turn_big {P : Program} {w : World} {K : PySem.W.Frag} {tg : Expr} (it : Addr) (lo : Int) (n : Nat) : Turn P w K tg (Itr lo n) [it] it (fun i h => IsLongIter h it (lo + (i : Nat) * 1) ((n : Int) - (i : Nat)) 1) := by
  refine ⟨by simp, fun i h st b hb => ?_, fun i h h' st k => k it (by simp) _ st, ?_, ?_, fun _ _ _ _ _ st h => wpAny_pyIter_longiter st h⟩
  · obtain rfl : b = it := by simpa using hb
    exact ⟨_, st, fun v z => by
      have z2 : Data.fields _ = Data.cell v := z
      cases z2⟩
  · intro X h1 h2 h3 hc i pins s σ H E I hf st hg
    subst h1 h2 h3
    have f := hf it (by simp)
    have W := Walks.longrange (prog := X.prog) (w := X.w) (I.ok.hd hc) it lo 1 n
    refine W.item i s _ _ hg st fun v h' tk hv st' kk => ?_
    obtain ⟨t, rfl⟩ := hv
    have I1 : Inv X pins σ H { s with heap := h', toks := tk } := I.turned (fun b o hb e => kk b o (by simpa using hb) e) f.1 f.2.1 f.2.2.2.1 f.2.2.2.2.1 f.2.2.2.2.2
    refine ⟨_, rfl, go_of (s := { s with heap := h', toks := tk }) (n := "longrange_iterator") st' rfl rfl (by decide) ⟨.int (lo + i), H, I1, ⟨t, ?_⟩, ⟨rfl, rfl⟩, st', fun b hb => (hf b hb).1⟩⟩
    rw [Int.mul_one]
  · intro X h1 h2 h3 hc i pins s σ H E I hf st hg
    subst h1 h2 h3
    have f := hf it (by simp)
    have hg : n ≤ i := hg
    exact wpAny_pyNext_long_end (I.ok.hd hc) st (by omega) fun h' eb => ⟨rfl, I.turned (t' := s.toks) (fun b o hb e => eb b o hb e) f.1 f.2.1 f.2.2.2.1 f.2.2.2.2.1 f.2.2.2.2.2⟩
theorem rng_it {X : Cx} {pins : List (Addr × Obj)} {s : Shared} {R : It → Hp → Prop} {E : Value → Shared → Prop} {lo hi : Int} {t u v : Tok} {tk : Nat} (I : Inv X pins σ H s) (q : R (Itr lo (hi - lo).toNat) H) :
    wpAny (model X.prog X.w) X.A (pyIter (.ref s.heap.objs.size)) (PIE X pins σ tg R) E { s with heap := s.heap.push { cls := .type "range", data := .fields #[.int lo t, .int hi u, .int 1 v] }, toks := tk } := by
  have I1 : Inv X pins σ H { s with heap := s.heap.push { cls := .type "range", data := .fields #[.int lo t, .int hi u, .int 1 v] }, toks := tk } := I.kept fun b o e => Heap.get?_push_of_some _ e
  have e2 : Builtin.Range.rangeSize lo hi 1 = ((hi - lo).toNat : Int) := by
    rw [rangeSize_one]
    split <;> omega
  cases hs : Builtin.Range.small lo hi 1 with
  | true =>
    refine wpAny_pyIter_range (IsRange.new ..) hs (pi_one (tk := tk) I1 _ (turn_range _ lo (hi - lo).toNat) ?_ q)
    show IsRangeIter _ _ (lo + ((0 : Nat) : Int) * 1) _ 1
    rw [e2, show lo + ((0 : Nat) : Int) * 1 = lo by simp, show (((hi - lo).toNat : Nat) : Int) - ((0 : Nat) : Int) = ((hi - lo).toNat : Int) by simp]
    exact Heap.get?_push_size _ rfl
  | false =>
    refine wpAny_pyIter_longrange (IsRange.new ..) hs (pi_one (tk := tk) I1 _ (turn_big _ lo (hi - lo).toNat) ?_ q)
    show IsLongIter _ _ (lo + ((0 : Nat) : Int) * 1) _ 1
    rw [e2, show lo + ((0 : Nat) : Int) * 1 = lo by simp, show (((hi - lo).toNat : Nat) : Int) - ((0 : Nat) : Int) = ((hi - lo).toNat : Int) by simp]
    exact Heap.get?_push_size _ rfl
def iR1 (ta : TA) : TI := fun σ H R => ta σ H fun vs H1 => ∃ j : Int, vs = [.int j] ∧ R (Itr 0 (j - 0).toNat) H1
def iR2 (ta : TA) : TI := fun σ H R => ta σ H fun vs H1 => ∃ i j : Int, vs = [.int i, .int j] ∧ R (Itr i (j - i).toNat) H1
theorem pi_r1 {X : Cx} {a : Expr} {ta : TA} {p pos : Pos} (hg : Gl X "range") (hm : X.mg "range" = none) (ha : PA X [a] ta) (hs : starEach [a] X.env = [(false, eval a X.env)]) : PI X tg (.Call (.Name "range" p) [a] [] pos) (iR1 ta) := by
  refine ⟨fun pins s σ H R I h => ?_⟩
  refine PyProof.Rows.Call_ (ld_blt I hg hm PyProof.Rows.boot_range (PyProof.Rows.callWith_type1 (thn (ha.run pos pins s σ H _ I h) fun us s1 q => ?_) hs rfl))
  obtain ⟨vs, H1, I1, r1, j, rfl, q⟩ := q
  cases r1 with
  | cons r rr =>
    cases rr
    obtain ⟨t, rfl⟩ := r
    exact call_range_1 (rng_it I1 q)
theorem pi_r2 {X : Cx} {a b : Expr} {ta : TA} {p pos : Pos} (hg : Gl X "range") (hm : X.mg "range" = none) (ha : PA X [a, b] ta) (hs : starEach [a, b] X.env = [(false, eval a X.env), (false, eval b X.env)]) (hs2 : starEach [b] X.env = [(false, eval b X.env)]) :
    PI X tg (.Call (.Name "range" p) [a, b] [] pos) (iR2 ta) := by
  refine ⟨fun pins s σ H R I h => ?_⟩
  refine PyProof.Rows.Call_ (ld_blt I hg hm PyProof.Rows.boot_range (PyProof.Rows.callWith_type1 (thn (ha.run pos pins s σ H _ I h) fun us s1 q => ?_) (by rw [hs, hs2]) (by rw [hs2]; rfl)))
  obtain ⟨vs, H1, I1, r1, i, j, rfl, q⟩ := q
  cases r1 with
  | cons r rr =>
    cases rr with
    | cons r2 rr =>
      cases rr
      obtain ⟨t, rfl⟩ := r
      obtain ⟨t2, rfl⟩ := r2
      exact call_range_2 (rng_it I1 q)
theorem jok_rng {lo hi : Int} : JOk K S σ B H (Itr lo (hi - lo).toNat) ((rng lo hi).map PyData.int) := JOk_of fun H2 kk => by
  refine ⟨fun i d ed => ?_, fun i hi => by rw [List.length_map, rng_len] at hi; exact hi⟩
  have hl : i < (hi - lo).toNat := by
    have := (List.getElem?_eq_some_iff.mp ed).1
    rw [List.length_map, rng_len] at this
    exact this
  rw [List.getElem?_map, rng_at hl] at ed
  cases ed
  exact ⟨hl, fun x H3 ⟨e1, e2⟩ => ⟨e1, by rw [e2]; exact .int _⟩⟩
theorem di_range1 {a : Expr} {j : Int} {p1 : Pos} (hx : G.blt.elem ("range" : Str) = true) (ha : DE G a S (.int j) S1) (hs : ∀ env, starEach [a] env = [(false, eval a env)] := by intro _; rfl) : DI G tg (.Call (.Name "range" p1) [a] [] pos) S ((rng 0 j).map PyData.int) S1 := fun X ok => by
  obtain ⟨hg, hm, _⟩ := ok.gl (elem_mem hx)
  refine PI_weak (pi_r1 hg hm (pa_cons (ha X ok) pa_nil (by rw [hs]; rfl)) (hs _)) fun σ H R ⟨B, hh, k⟩ => ⟨B, hh, fun v H1 h1 r1 q => ⟨j, by rw [rep_int q], ?_⟩⟩
  exact k _ H1 h1 r1 jok_rng
theorem di_range2 {a b : Expr} {i j : Int} {p1 : Pos} (hx : G.blt.elem ("range" : Str) = true) (ha : DE G a S (.int i) S1) (hb : DE G b S1 (.int j) S2) (hs : ∀ env, starEach [a, b] env = [(false, eval a env), (false, eval b env)] := by intro _; rfl) (hs2 : ∀ env, starEach [b] env = [(false, eval b env)] := by intro _; rfl) :
    DI G tg (.Call (.Name "range" p1) [a, b] [] pos) S ((rng i j).map PyData.int) S2 := fun X ok => by
  obtain ⟨hg, hm, _⟩ := ok.gl (elem_mem hx)
  refine PI_weak (pi_r2 hg hm (pa_cons (ha X ok) (pa_cons (hb X ok) pa_nil (by rw [hs2]; rfl)) (by rw [hs, hs2])) (hs _) (hs2 _)) fun σ H R ⟨B, hh, k⟩ => ⟨B, hh, fun v H1 h1 r1 q => ⟨B, h1, fun u H2 h2 r2 q2 => ⟨i, j, by rw [rep_int q, rep_int q2], ?_⟩⟩⟩
  exact k _ H2 h2 (r1.trans r2) jok_rng
theorem di_str {e : Expr} {x : Str} (he : DE G e S (.str x) S1) : DI G tg e S (x.cps.toList.map fun c => PyData.str ⟨#[c]⟩) S1 := fun X ok => by
  refine PI_weak (pi_str (he X ok)) fun σ H R ⟨B, hh, k⟩ => ⟨B, hh, fun v H1 h1 r1 q => ⟨x, rep_str q, k _ H1 h1 r1 (JOk_of fun H2 kk => ⟨fun i d ed => ?_, fun i hi => by
    show x.cps.size ≤ i
    simpa using hi⟩)⟩⟩
  rw [List.getElem?_map, Array.getElem?_toList] at ed
  cases ec : x.cps[i]? with
  | none => rw [ec] at ed; cases ed
  | some c =>
    rw [ec] at ed; cases ed
    exact ⟨(Array.getElem?_eq_some_iff.mp ec).1, fun y H3 ⟨e1, c2, e2, e3⟩ => ⟨e1, by
      rw [ec] at e2; cases e2
      rw [e3]
      exact .str _⟩⟩
end
end Pw
namespace Pw
open PySem PySem.Spec L2

section
variable {α τ ρ β ι : Type} {G : Cxt} {S S' S1 S2 : List Sl} {iter tg c e elt : Expr} {ifs : List Expr} {pos p1 : Pos} {K : PySem.W.Frag} {B B' : AP} {σ σ' : L2.St} {H H' : Hp} {ds : List PyData} {v : V} {vs : List Nat} {d : PyData} {o : Ob} {k1 : Bool}

/-! ### sources whose length is known -/
def tItz (K : PySem.W.Frag) (S : List Sl) (ds : List PyData) (S' : List Sl) : TI := fun σ H R => ∃ B, Holds K B S σ H ∧ ∀ J H', Holds K B S' σ H' → Rel S σ H S' σ H' → JOk K S' σ B H' J ds → ds.length ≤ sizeLine → R J H'
def DZ (G : Cxt) (tg e : Expr) (S : List Sl) (ds : List PyData) (S' : List Sl) : Prop := ∀ X, G.Ok X → PI X tg e (tItz X.K S ds S')
theorem dz_of (h : DI G tg e S ds S1) (hz : ds.length ≤ sizeLine) : DZ G tg e S ds S1 := fun X ok => PI_weak (h X ok) fun σ H R ⟨B, hh, k⟩ => ⟨B, hh, fun J H1 h1 r1 j => k J H1 h1 r1 j hz⟩
theorem jok_list {a : Addr} {xs : List V} {H1 : Hp} (la : LAt K (OwnA S1 σ) H1 a xs) (rs : Reps K (Av S1 σ B) H1 xs ds) : JOk K S1 σ B H1 (Itl K a) ds := JOk_of fun H2 kk => by
  refine ⟨fun i d ed => ?_, fun i hi => ⟨xs, sq_keepL la kk, by rw [rs.length]; exact hi⟩⟩
  obtain ⟨v, ev, rv⟩ := rs.get ed
  exact ⟨⟨xs, v, sq_keepL la kk, ev⟩, fun x H3 ⟨e1, e2⟩ => ⟨e1, by
    have := e2 xs (sq_keepL la kk)
    rw [ev] at this; cases this
    exact rv⟩⟩
theorem jok_tup {a : Addr} {xs : List V} {H1 : Hp} (la : TAt K (Av S1 σ B) H1 a xs) (rs : Reps K (Av S1 σ B) H1 xs ds) : JOk K S1 σ B H1 (Itt K a) ds := JOk_of fun H2 kk => by
  have sub : ∀ a, OwnA S1 σ a → Av S1 σ B a := fun _ z => .inl z
  refine ⟨fun i d ed => ?_, fun i hi => ⟨xs, sq_keepT la sub kk, by rw [rs.length]; exact hi⟩⟩
  obtain ⟨v, ev, rv⟩ := rs.get ed
  exact ⟨⟨xs, v, sq_keepT la sub kk, ev⟩, fun x H3 ⟨e1, e2⟩ => ⟨e1, by
    have := e2 xs (sq_keepT la sub kk)
    rw [ev] at this; cases this
    exact rv⟩⟩
theorem dz_list (he : DB G e S (.lst ds) S1) : DZ G tg e S ds S1 := fun X ok =>
  PI_len (pi_list (he X ok)) fun σ H R ⟨B, hh, k⟩ => ⟨B, hh, fun a H1 h1 r1 ⟨xs, la, rs⟩ => ⟨a, rfl, ⟨xs, la.sq⟩, fun lo => k _ H1 h1 r1 (jok_list la rs) (by rw [← rs.length]; exact lo a xs (.inl la.sq))⟩⟩
theorem dz_tup (he : DE G e S (.tuple ds) S1) : DZ G tg e S ds S1 := fun X ok =>
  PI_len (pi_tup (he X ok)) fun σ H R ⟨B, hh, k⟩ => ⟨B, hh, fun v H1 h1 r1 q => by
    cases q with
    | @tup a xs _ la rs => exact ⟨a, rfl, ⟨xs, la.sq⟩, fun lo => k _ H1 h1 r1 (jok_tup la rs) (by rw [← rs.length]; exact lo a xs (.inr la.sq))⟩⟩

/-! ### slots out of sight -/
def wipeS (S : List Sl) : List Nat → List Sl
  | [] => S
  | i :: vs => (wipeS S vs).set i .un
theorem wipeS_len : ∀ vs : List Nat, (wipeS S vs).length = S.length
  | [] => rfl
  | i :: vs => by unfold wipeS; rw [List.length_set, wipeS_len vs]
theorem wipeS_in : ∀ {vs : List Nat} {i : Nat} {s : Sl}, (wipeS S vs)[i]? = some s → i ∈ vs → s = .un
  | v :: vs, i, s, e, h => by
    unfold wipeS at e
    rcases get_set e with ⟨rfl, rfl, _⟩ | ⟨ne, e⟩
    · rfl
    · rcases List.mem_cons.mp h with h | h
      · exact absurd h.symm ne
      · exact wipeS_in e h
theorem wipeS_out : ∀ {vs : List Nat} {i : Nat}, i ∉ vs → (wipeS S vs)[i]? = S[i]?
  | [], _, _ => rfl
  | v :: vs, i, h => by
    unfold wipeS
    rw [List.getElem?_set_ne (fun z => h (by rw [z]; exact List.mem_cons_self))]
    exact wipeS_out fun z => h (List.mem_cons_of_mem _ z)
theorem wipe_out' : ∀ {vs : List Nat} {i : Nat}, i ∉ vs → (wipe σ vs)[i]? = σ[i]?
  | [], _, _ => rfl
  | v :: vs, i, h => by
    unfold wipe
    rw [List.getElem?_set_ne (fun z => h (by rw [z]; exact List.mem_cons_self))]
    exact wipe_out' fun z => h (List.mem_cons_of_mem _ z)
theorem wipe_in : ∀ {vs : List Nat} {i : Nat}, i ∈ vs → (wipe σ vs)[i]? = if i < σ.length then some none else none
  | v :: vs, i, h => by
    unfold wipe
    by_cases z : v = i
    · subst z
      by_cases hl : v < σ.length
      · rw [List.getElem?_set_self (by rw [wipe_length]; exact hl), if_pos hl]
      · rw [List.getElem?_eq_none (by rw [List.length_set, wipe_length]; omega), if_neg hl]
    · rw [List.getElem?_set_ne z]
      rcases List.mem_cons.mp h with h | h
      · exact absurd h.symm z
      · exact wipe_in h
theorem wipe_eq (hl : σ'.length = σ.length) (h : ∀ i, i ∉ vs → σ'[i]? = σ[i]?) : wipe σ' vs = wipe σ vs := by
  apply List.ext_getElem?
  intro i
  by_cases hi : i ∈ vs
  · rw [wipe_in hi, wipe_in hi, hl]
  · rw [wipe_out' hi, wipe_out' hi]
    exact h i hi
theorem wipe_wipe : wipe (wipe σ vs) vs = wipe σ vs := wipe_eq (wipe_length σ vs) fun i hi => wipe_out' hi
/-- no slot of vs is one's own -/
def noOwn (S : List Sl) (vs : List Nat) : Bool := vs.all fun i => match S[i]? with
  | some s => !own? s
  | none => true
theorem noOwn_at {i : Nat} {s : Sl} (h : noOwn S vs = true) (hi : i ∈ vs) (e : S[i]? = some s) : own? s = false := by
  have := List.all_eq_true.mp h i hi
  rw [e] at this
  simpa using this
theorem own_wipe (h : noOwn S vs = true) {a : Addr} : OwnA (wipeS S vs) (wipe σ vs) a ↔ OwnA S σ a := by
  constructor
  · rintro ⟨i, s, e, ho, er⟩
    by_cases hi : i ∈ vs
    · rw [wipeS_in e hi] at ho; cases ho
    · rw [wipeS_out hi] at e
      rw [wipe_out' hi] at er
      exact ⟨i, s, e, ho, er⟩
  · rintro ⟨i, s, e, ho, er⟩
    by_cases hi : i ∈ vs
    · rw [noOwn_at h hi e] at ho; cases ho
    · exact ⟨i, s, by rw [wipeS_out hi]; exact e, ho, by rw [wipe_out' hi]; exact er⟩
theorem own_wipe1 {a : Addr} (h : OwnA (wipeS S vs) (wipe σ vs) a) : OwnA S σ a := by
  obtain ⟨i, s, e, ho, er⟩ := h
  by_cases hi : i ∈ vs
  · rw [wipeS_in e hi] at ho; cases ho
  · rw [wipeS_out hi] at e
    rw [wipe_out' hi] at er
    exact ⟨i, s, e, ho, er⟩
theorem Holds.wipe (h : Holds K B S σ H) : Holds K B (wipeS S vs) (L2.wipe σ vs) H := by
  have sub : ∀ a, Av (wipeS S vs) (L2.wipe σ vs) B a → Av S σ B a := fun a z => z.imp own_wipe1 id
  refine ⟨by rw [wipeS_len, wipe_length]; exact h.len, fun i s e => ?_, fun i j s t a e1 e2 o1 o2 r1 r2 => ?_, h.bm⟩
  · by_cases hi : i ∈ vs
    · rw [wipeS_in e hi]; trivial
    · rw [wipeS_out hi] at e
      rw [wipe_out' hi]
      exact (h.sl i s e).car (Car.imp sub) (fun a u n e => ⟨fun z => n (own_wipe1 z), e⟩) fun _ _ _ _ e => e
  · have hi : i ∉ vs := fun z => by rw [wipeS_in e1 z] at o1; cases o1
    have hj : j ∉ vs := fun z => by rw [wipeS_in e2 z] at o2; cases o2
    rw [wipeS_out hi] at e1
    rw [wipeS_out hj] at e2
    rw [wipe_out' hi] at r1
    rw [wipe_out' hj] at r2
    exact h.inj i j s t a e1 e2 o1 o2 r1 r2
theorem Rel.wipe (r : Rel S σ H S' σ' H') (h : noOwn S vs = true) : Rel (wipeS S vs) (L2.wipe σ vs) H (wipeS S' vs) (L2.wipe σ' vs) H' := by
  have ioV : ∀ (i : Nat) (o : Ob), S[i]? = some (Sl.io o) → i ∉ vs := fun i o e hi => by
    have := noOwn_at h hi e
    cases this
  refine ⟨fun a o e n => r.keep a o e fun z => n ((own_wipe h).mpr z), fun a z => ?_, fun i o e => ?_, by rw [wipeS_len, wipeS_len]; exact r.len, fun i o e => ?_, fun i s e hs => ?_, r.dom⟩
  · rcases r.own a (own_wipe1 z) with q | q
    · exact .inl ((own_wipe h).mpr q)
    · exact .inr q
  · have hi : i ∉ vs := fun z => by have := wipeS_in e z; cases this
    rw [wipeS_out hi] at e
    obtain ⟨e1, o1, e2⟩ := r.ios i o e
    exact ⟨by rw [wipe_out' hi, wipe_out' hi]; exact e1, o1, by rw [wipeS_out hi]; exact e2⟩
  · have hi : i ∉ vs := fun z => by have := wipeS_in e z; cases this
    rw [wipeS_out hi] at e
    obtain ⟨o1, e1⟩ := r.iob i o e
    exact ⟨o1, by rw [wipeS_out hi]; exact e1⟩
  · have hi : i ∉ vs := fun z => by rw [wipeS_in e z] at hs; cases hs
    rw [wipeS_out hi] at e
    obtain ⟨e1, e2⟩ := r.fix i s e hs
    exact ⟨by rw [wipeS_out hi]; exact e1, by rw [wipe_out' hi, wipe_out' hi]; exact e2⟩
/-- back in sight: S1 the slots ahead of the block, S2 behind it -/
theorem unwipe (h1 : Holds K B S1 σ H) (hB : ∀ a, B' a → B a ∨ H a = none) (hn : noOwn S1 vs = true) (hv : ∀ i ∈ vs, S2[i]? = S1[i]?) (hl : S2.length = S1.length) (h2 : Holds K B' (wipeS S2 vs) (L2.wipe σ vs) H') (r : Rel (wipeS S1 vs) (L2.wipe σ vs) H (wipeS S2 vs) (L2.wipe σ vs) H') : Holds K B' S2 σ H' ∧ Rel S1 σ H S2 σ H' ∧ (∀ a, OwnA S2 σ a → OwnA (wipeS S2 vs) (L2.wipe σ vs) a) := by
  have hn2 : noOwn S2 vs = true := List.all_eq_true.mpr fun i hi => by
    rw [hv i hi]
    exact List.all_eq_true.mp hn i hi
  have keep : ∀ a o, H a = some o → ¬ OwnA S1 σ a → H' a = some o := fun a o e n => r.keep a o e fun z => n ((own_wipe hn).mp z)
  have own : ∀ a, OwnA S2 σ a → OwnA S1 σ a ∨ H a = none := fun a z => by
    rcases r.own a ((own_wipe hn2).mpr z) with q | q
    · exact .inl ((own_wipe hn).mp q)
    · exact .inr q
  have rel : Rel S1 σ H S2 σ H' := by
    refine ⟨keep, own, fun i o e => ⟨rfl, ?_⟩, hl, fun i o e => ?_, fun i s e hs => ⟨?_, rfl⟩, r.dom⟩
    · by_cases hi : i ∈ vs
      · exact ⟨o, by rw [hv i hi]; exact e⟩
      · obtain ⟨_, o1, e2⟩ := r.ios i o (by rw [wipeS_out hi]; exact e)
        rw [wipeS_out hi] at e2
        exact ⟨o1, e2⟩
    · by_cases hi : i ∈ vs
      · exact ⟨o, by rw [← hv i hi]; exact e⟩
      · obtain ⟨o1, e2⟩ := r.iob i o (by rw [wipeS_out hi]; exact e)
        rw [wipeS_out hi] at e2
        exact ⟨o1, e2⟩
    · by_cases hi : i ∈ vs
      · rw [← hv i hi]; exact e
      · obtain ⟨e1, _⟩ := r.fix i s (by rw [wipeS_out hi]; exact e) hs
        rw [wipeS_out hi] at e1
        exact e1
  have cA : Car (Av S1 σ B) (Av S2 σ B') H H' := by
    refine ⟨fun a xs n q => ?_, fun a xs n q => ?_⟩ <;> (
      obtain ⟨o, e⟩ := (by first | exact rd_some q | exact xt_some q)
      refine ⟨fun z => ?_, by first | exact rd_keep (fun o e => keep a o e fun z => n (.inl z)) q | exact xt_keep (fun o e => keep a o e fun z => n (.inl z)) q⟩
      rcases z with z | z
      · rcases own a z with w | w
        · exact n (.inl w)
        · rw [e] at w; cases w
      · rcases hB a z with w | w
        · exact n (.inr w)
        · rw [e] at w; cases w)
  have cB : Car (Av (wipeS S2 vs) (L2.wipe σ vs) B') (Av S2 σ B') H' H' := Car.imp fun a z => z.imp (own_wipe hn2).mpr id
  refine ⟨⟨?_, fun i s e => ?_, fun i j s t a e1 e2 o1 o2 r1 r2 => ?_, h2.bm⟩, rel, fun a z => (own_wipe hn2).mpr z⟩
  · exact hl.trans h1.len
  · by_cases hi : i ∈ vs
    · rw [hv i hi] at e
      refine (h1.sl i s e).car cA (fun a u n e => ⟨fun z => ?_, keep a u e n⟩) fun ow => ?_
      · rcases own a z with w | w
        · exact n w
        · rw [e] at w; cases w
      · rw [noOwn_at hn hi e] at ow; cases ow
    · have q := h2.sl i s (by rw [wipeS_out hi]; exact e)
      rw [wipe_out' hi] at q
      exact q.car cB (fun a u n e => ⟨fun z => n ((own_wipe hn2).mpr z), e⟩) fun _ _ _ _ e => e
  · have hi : i ∉ vs := fun z => by rw [noOwn_at hn2 z e1] at o1; cases o1
    have hj : j ∉ vs := fun z => by rw [noOwn_at hn2 z e2] at o2; cases o2
    exact h2.inj i j s t a (by rw [wipeS_out hi]; exact e1) (by rw [wipeS_out hj]; exact e2) o1 o2 (by rw [wipe_out' hi]; exact r1) (by rw [wipe_out' hj]; exact r2)

/-! ### list comprehensions -/
def DTs (G : Cxt) (es : List Expr) (S : List Sl) (b : Bool) (S' : List Sl) : Prop := ∀ X, G.Ok X → PTs X es (tT X.K S b S')
theorem PTs_weak {X : Cx} {es : List Expr} {t t' : TT} (h : PTs X es t) (w : ∀ σ H Q, t' σ H Q → t σ H Q) : PTs X es t' := ⟨fun pins s σ H Q I q => h.run pins s σ H Q I (w σ H Q q)⟩
theorem PTs_ex {X : Cx} {es : List Expr} {p : ι → Prop} {g : ι → TT} (h : ∀ i, p i → PTs X es (g i)) : PTs X es (fun σ H Q => ∃ i, p i ∧ g i σ H Q) := ⟨fun pins s σ H Q I ⟨i, pi, q⟩ => (h i pi).run pins s σ H Q I q⟩
theorem dts_nil : DTs G [] S true S := fun X ok => PTs_weak pts_nil fun σ H Q ⟨B, hh, k⟩ => k H hh Rel.refl
theorem dts_one (h : DT G c S k1 S1) : DTs G [c] S k1 S1 := fun X ok => pts_one (h X ok)
/-- what a comprehension's parts give -/
def LcP (X : Cx) (elt tg iter : Expr) (ifs : List Expr) (scope : Scope) (own : List (Str × Nat)) (t : TE) : Prop :=
  ∃ wi g tt te, PI X tg iter wi ∧ BlkOk X.N X.env.scope scope own ∧ (∀ (s : Shared) (H : Hp) (C : Addr) (cl : List (Str × Addr)) (fp : List Addr), PG (X.blk s H scope (compEnvC scope cl C X.env) fp) tg g) ∧
    (∀ (s : Shared) (H : Hp) (C : Addr) (cl : List (Str × Addr)) (fp : List Addr), PTs (X.blk s H scope (compEnvC scope cl C X.env) fp) ifs tt) ∧
    (∀ (s : Shared) (H : Hp) (C : Addr) (cl : List (Str × Addr)) (fp : List Addr), PE (X.blk s H scope (compEnvC scope cl C X.env) fp) elt te) ∧ ∀ σ H Q, t σ H Q → tLc wi g tt te (own.map (·.2)) σ H Q
theorem Holds.updB {D : Addr} {u : HO} (h : Holds K (Bp B D) S σ H) (n : ¬ OwnA S σ D) (mu : Mut (some u)) (hb : ∀ (j : Nat) (s : Sl), S[j]? = some s → lent? s = true → SlOk K (fun a => OwnA S σ a ∨ a = D) (Av S σ fun a => B a ∨ a = D) H σ[j]? s) : Holds K (Bp B D) S σ (upd H D u) := by
  have ne : ∀ a, ¬ Av S σ (Bp B D) a → a ≠ D := fun a z e => z (.inr (.inr e))
  have c : Car (Av S σ (Bp B D)) (Av S σ (Bp B D)) H (upd H D u) := ⟨fun a xs n q => ⟨n, rd_keep (fun o e => by rw [upd_ne (ne a n)]; exact e) q⟩, fun a xs n q => ⟨n, xt_keep (fun o e => by rw [upd_ne (ne a n)]; exact e) q⟩⟩
  have ow : ∀ i s a v, S[i]? = some s → own? s = true → σ[i]? = some (some (V.ref a)) → H a = some v → upd H D u a = some v := fun i s a v e o r q => by
    rw [upd_ne (fun z => n ⟨i, s, e, o, by rw [← z]; exact r⟩)]
    exact q
  have le : ∀ i s, S[i]? = some s → lent? s = true → SlOk K (OwnA S σ) (Av S σ (Bp B D)) (upd H D u) σ[i]? s := fun i s e hl =>
    (hb i s e hl).car c (fun a v n q => ⟨fun z => n (.inl z), by rw [upd_ne (fun z => n (.inr z))]; exact q⟩) fun ow => absurd ow (by cases s <;> first | exact Bool.false_ne_true | cases hl)
  refine ⟨h.len, fun i s e => ?_, h.inj, fun a z => ?_⟩
  · cases s with
    | un => trivial
    | dat d => obtain ⟨v, e, r⟩ := h.sl i _ e; exact ⟨v, e, r.car c⟩
    | own o => obtain ⟨a, e2, r⟩ := h.sl i _ e; exact ⟨a, e2, r.car c fun v q => ow i _ a v e rfl e2 q⟩
    | io o => obtain ⟨a, e2, r⟩ := h.sl i _ e; exact ⟨a, e2, r.car c fun v q => ow i _ a v e rfl e2 q⟩
    | bor o => exact le i _ e rfl
    | lkd o => exact le i _ e rfl
  · by_cases w : a = D
    · rw [w, upd_same]; exact mu
    · rw [upd_ne w]; exact h.bm a z
theorem Rel.updF {D : Addr} {u : HO} (r : Rel S σ H S' σ' H') (hD : H D = none) : Rel S σ H S' σ' (upd H' D u) := by
  refine ⟨fun a o e n => ?_, r.own, r.ios, r.len, r.iob, r.fix, fun a o e => ?_⟩
  · rw [upd_ne (ne_of_none e hD)]
    exact r.keep a o e n
  · rw [upd_ne (ne_of_none e hD)]
    exact r.dom a o e
theorem wipeS_eq (hl : S'.length = S.length) (h : ∀ i, i ∉ vs → S'[i]? = S[i]?) : wipeS S' vs = wipeS S vs := by
  apply List.ext_getElem?
  intro i
  by_cases hi : i ∈ vs
  · by_cases hlt : i < S.length
    · obtain ⟨x, ex⟩ : ∃ x, (wipeS S' vs)[i]? = some x := ⟨_, List.getElem?_eq_getElem (by rw [wipeS_len]; omega)⟩
      obtain ⟨y, ey⟩ : ∃ y, (wipeS S vs)[i]? = some y := ⟨_, List.getElem?_eq_getElem (by rw [wipeS_len]; omega)⟩
      rw [ex, ey, wipeS_in ex hi, wipeS_in ey hi]
    · rw [List.getElem?_eq_none (by rw [wipeS_len]; omega), List.getElem?_eq_none (by rw [wipeS_len]; omega)]
  · rw [wipeS_out hi, wipeS_out hi]
    exact h i hi
theorem wipeS_wipeS : wipeS (wipeS S vs) vs = wipeS S vs := wipeS_eq (wipeS_len vs) fun i hi => wipeS_out hi
theorem noOwn_wipe : noOwn (wipeS S vs) vs = true := List.all_eq_true.mpr fun i hi => by
  cases e : (wipeS S vs)[i]? with
  | none => rfl
  | some s => rw [wipeS_in e hi]; rfl
/-- one turn -/
def Turn1 (G : Cxt) (elt : Expr) (ifs : List Expr) (vs : List Nat) (S St : List Sl) (h : β → PyData) : Option β → Prop
  | none => ∃ Sm, DTs G ifs S false Sm ∧ wipeS Sm vs = St
  | some y => ∃ Sm S3, DTs G ifs S true Sm ∧ DE G elt Sm (h y) S3 ∧ wipeS S3 vs = St
theorem lc_ok {scope : Scope} {own : List (Str × Nat)} {tab : List (Str × Nat)} {loc : List Str} {ix : List Nat} {f : α → PyData} {h : β → PyData} {xs : List α} {ys : List β} {t0 t1 : τ} {step : τ → α → Option (Option β × τ)} {slots : τ → List Sl} {tgt : τ → α → List Sl}
    (hc : (G.blk scope tab loc).chk = true) (hb : blkC G.N G.sc scope own = true) (hz : DZ G tg iter S (xs.map f) (slots t0)) (hn : noOwn (slots t0) (own.map (·.2)) = true) (hv : ∀ t, ∀ i ∈ own.map (·.2), (slots t)[i]? = (slots t0)[i]?) (hl : ∀ t, (slots t).length = (slots t0).length)
    (hix : ∀ i ∈ ix, i ∈ own.map (·.2)) (hg : ∀ t x, x ∈ xs → DG (G.blk scope tab loc) tg ix (wipeS (slots t) (own.map (·.2))) (f x) (tgt t x))
    (ht : ∀ t x o t', x ∈ xs → step t x = some (o, t') → Turn1 (G.blk scope tab loc) elt ifs (own.map (·.2)) (tgt t x) (wipeS (slots t') (own.map (·.2))) h o)
    (he : compM step t0 xs = some (ys, t1)) (X : Cx) (ok : G.Ok X) : LcP X elt tg iter ifs scope own (tF X.K S (.lst (ys.map h)) (slots t1)) := by
  have hblk : BlkOk X.N X.env.scope scope own := by
    rw [ok.N, ok.sc]
    exact blkOk_by hb
  have okb := fun s H C cl fp => ok.blk hc s H C cl fp
  generalize hvs : own.map (·.2) = vs at hn hv hix hg ht
  refine ⟨tItz X.K S (xs.map f) (slots t0), fun v σ H Q => ∃ i : List Sl × PyData × List Sl, DG (G.blk scope tab loc) tg ix i.1 i.2.1 i.2.2 ∧ tGt X.K ix i.1 i.2.1 i.2.2 v σ H Q, fun σ H Q => ∃ i : List Sl × Bool × List Sl, DTs (G.blk scope tab loc) ifs i.1 i.2.1 i.2.2 ∧ tT X.K i.1 i.2.1 i.2.2 σ H Q,
    fun σ H Q => ∃ i : List Sl × PyData × List Sl, DE (G.blk scope tab loc) elt i.1 i.2.1 i.2.2 ∧ tE X.K i.1 i.2.1 i.2.2 σ H Q, hz X ok, hblk,
    fun s H C cl fp => PG_ex (p := fun i : List Sl × PyData × List Sl => DG (G.blk scope tab loc) tg ix i.1 i.2.1 i.2.2) fun i hp => hp _ (okb s H C cl fp),
    fun s H C cl fp => PTs_ex (p := fun i : List Sl × Bool × List Sl => DTs (G.blk scope tab loc) ifs i.1 i.2.1 i.2.2) fun i hp => hp _ (okb s H C cl fp),
    fun s H C cl fp => PE_ex (p := fun i : List Sl × PyData × List Sl => DE (G.blk scope tab loc) elt i.1 i.2.1 i.2.2) fun i hp => hp _ (okb s H C cl fp), fun σ H Q ⟨B, hh, k⟩ => ?_⟩
  rw [hvs]
  refine ⟨B, hh, fun J H1 h1 r1 jk zl D hD => ?_⟩
  have n0 : ¬ OwnA (wipeS (slots t0) vs) (L2.wipe σ vs) D := fun z => h1.free hD (own_wipe1 z)
  refine ⟨fun i m H => m = xs.length - i ∧ i ≤ xs.length ∧ ∃ t zs rest, compM step t (xs.drop i) = some (rest, t1) ∧ zs ++ rest = ys ∧ zs.length ≤ i ∧ Holds X.K (Bp B D) (wipeS (slots t) vs) (L2.wipe σ vs) H ∧ Rel (wipeS (slots t0) vs) (L2.wipe σ vs) H1 (wipeS (slots t) vs) (L2.wipe σ vs) H ∧
    ¬ OwnA (wipeS (slots t) vs) (L2.wipe σ vs) D ∧ ∃ acc, H D = some (.lst acc) ∧ Reps X.K (Av (wipeS (slots t) vs) (L2.wipe σ vs) (Bp B D)) H acc (zs.map h),
    ⟨_, rfl, Nat.zero_le _, t0, [], ys, by rw [List.drop_zero]; exact he, rfl, Nat.le_refl _, h1.wipe.newB hD trivial, Rel.same (upd_keep hD), n0, [], upd_same, .nil⟩, ?_⟩
  rintro i m H2 ⟨rfl, hi, t, zs, rest, hcm, hzs, hzl, hh2, r2, nD, acc, eD, ra⟩
  have keep2 : ∀ a o, H1 a = some o → ¬ OwnA (slots t0) σ a → H2 a = some o := fun a o e n => r2.keep a o e fun z => n ((own_wipe hn).mp z)
  obtain ⟨j1, j2⟩ := jk H2 keep2
  by_cases hlt : i < xs.length
  · have ed : xs.drop i = xs[i] :: xs.drop (i + 1) := List.drop_eq_getElem_cons hlt
    rw [ed] at hcm
    have hx : xs[i] ∈ xs := List.getElem_mem hlt
    obtain ⟨go, yl⟩ := j1 i (f xs[i]) (by rw [List.getElem?_map, List.getElem?_eq_getElem hlt]; rfl)
    unfold compM at hcm
    cases hst : step t xs[i] with
    | none => rw [hst] at hcm; cases hcm
    | some ot =>
      obtain ⟨o, t'⟩ := ot
      rw [hst] at hcm
      have hcm : (match compM step t' (xs.drop (i + 1)) with
        | none => none
        | some (ys, t2) => some (consO o ys, t2)) = some (rest, t1) := hcm
      cases hc2 : compM step t' (xs.drop (i + 1)) with
      | none => rw [hc2] at hcm; cases hcm
      | some rt =>
        obtain ⟨rest', t2⟩ := rt
        rw [hc2] at hcm
        have hcm : some (consO o rest', t2) = some (rest, t1) := hcm
        injection hcm with hcm
        have e1 := congrArg Prod.fst hcm
        have e2 := congrArg Prod.snd hcm
        dsimp only at e1 e2
        subst e2
        refine .inr ⟨go, fun H' => ∃ zs', zs' ++ rest' = ys ∧ zs'.length ≤ i + 1 ∧ Holds X.K (Bp B D) (wipeS (slots t') vs) (L2.wipe σ vs) H' ∧ Rel (wipeS (slots t0) vs) (L2.wipe σ vs) H1 (wipeS (slots t') vs) (L2.wipe σ vs) H' ∧
          ¬ OwnA (wipeS (slots t') vs) (L2.wipe σ vs) D ∧ ∃ acc, H' D = some (.lst acc) ∧ Reps X.K (Av (wipeS (slots t') vs) (L2.wipe σ vs) (Bp B D)) H' acc (zs'.map h), fun H' ⟨zs', q1, q2, q3, q4, q5, q6⟩ => ⟨_, by omega, rfl, hlt, t', zs', rest', hc2, q1, q2, q3, q4, q5, q6⟩, fun x H3 hy => ?_⟩
        obtain ⟨ks, rq⟩ := yl x H3 hy
        have hh3 := hh2.same ks
        have r3 := r2.trans (Rel.same (S := wipeS (slots t) vs) (σ := L2.wipe σ vs) ks)
        have item : Rep X.K (Av (wipeS (slots t) vs) (L2.wipe σ vs) (Bp B D)) H3 x (f xs[i]) := by
          rcases rq with rq | ⟨pq, rq⟩
          · have cc : ∀ a o, ¬ Av (slots t0) σ B a → H1 a = some o → ¬ Av (wipeS (slots t) vs) (L2.wipe σ vs) (Bp B D) a := fun a o n e z => by
              rcases z with z | z | z
              · rcases r3.own a z with w | w
                · exact n (.inl ((own_wipe hn).mp w))
                · rw [e] at w; cases w
              · exact n (.inr z)
              · rw [z, hD] at e; cases e
            refine rq.car ⟨fun a xs n q => ?_, fun a xs n q => ?_⟩ <;> (
              obtain ⟨o, e⟩ := (by first | exact rd_some q | exact xt_some q)
              exact ⟨cc a o n e, by first | exact rd_keep (fun o e => ks a o (keep2 a o e fun z => n (.inl z))) q | exact xt_keep (fun o e => ks a o (keep2 a o e fun z => n (.inl z))) q⟩)
          · exact rq.carP (ctup hh3) pq
        have eD3 : H3 D = some (.lst acc) := ks D _ eD
        refine ⟨(wipeS (slots t) vs, f xs[i], tgt t xs[i]), hg t xs[i] hx, Bp B D, hh3, item, fun σ2 H4 hh4 r4 u4 => ?_⟩
        have lσ : σ2.length = (L2.wipe σ vs).length := by rw [← hh4.len, ← hh3.len, r4.len]
        have ew : L2.wipe σ2 vs = L2.wipe σ vs := (wipe_eq lσ fun i hi => u4 i fun z => hi (hix i z)).trans wipe_wipe
        refine ⟨ew, ?_⟩
        have tr := ht t xs[i] o t' hx hst
        -- what holds behind the turn
        have fin : ∀ {S3 : List Sl} {H5 : Hp}, wipeS S3 vs = wipeS (slots t') vs → Holds X.K (Bp B D) S3 σ2 H5 → Rel (wipeS (slots t) vs) (L2.wipe σ vs) H3 S3 σ2 H5 → Holds X.K (Bp B D) (wipeS (slots t') vs) (L2.wipe σ vs) H5 ∧ Rel (wipeS (slots t0) vs) (L2.wipe σ vs) H1 (wipeS (slots t') vs) (L2.wipe σ vs) H5 ∧
            ¬ OwnA (wipeS (slots t') vs) (L2.wipe σ vs) D ∧ H5 D = some (.lst acc) ∧ Reps X.K (Av (wipeS (slots t') vs) (L2.wipe σ vs) (Bp B D)) H5 acc (zs.map h) ∧ ¬ OwnA S3 σ2 D := fun {S3 H5} eS hh5 r5 => by
          have q1 := hh5.wipe (vs := vs)
          have q2 := r5.wipe (vs := vs) noOwn_wipe
          rw [eS, ew] at q1 q2
          rw [wipeS_wipeS, wipe_wipe] at q2
          have nS : ¬ OwnA S3 σ2 D := (r5.ownKeep nD eD3).1
          refine ⟨q1, r3.trans q2, (q2.ownKeep nD eD3).1, r5.keep D _ eD3 nD, ?_, nS⟩
          exact (ra.same ks).car q2.car
        cases o with
        | none =>
          obtain ⟨Sm, t1, eS⟩ := tr
          refine ⟨(tgt t xs[i], false, Sm), t1, Bp B D, hh4, fun H5 hh5 r5 => tT_ite (fun z => by cases z) fun _ => ?_⟩
          obtain ⟨f1, f2, f3, f4, f5, _⟩ := fin eS hh5 (r4.trans r5)
          exact ⟨zs, by rw [← hzs, ← e1]; rfl, by omega, f1, f2, f3, acc, f4, f5⟩
        | some y =>
          obtain ⟨Sm, S3, t1, t2, eS⟩ := tr
          refine ⟨(tgt t xs[i], true, Sm), t1, Bp B D, hh4, fun H5 hh5 r5 => tT_ite (fun _ => ?_) fun z => by cases z⟩
          refine ⟨(Sm, h y, S3), t2, Bp B D, hh5, fun v H6 hh6 r6 q6 => ?_⟩
          obtain ⟨f1, f2, f3, f4, f5, f6⟩ := fin eS hh6 ((r4.trans r5).trans r6)
          have la : acc.length < sizeLine := by
            have := ra.length
            rw [List.length_map] at this
            rw [List.length_map] at zl
            omega
          refine ⟨acc, f4, la, zs ++ [y], by rw [List.append_assoc, ← hzs, ← e1]; rfl, by rw [List.length_append]; simp; omega, ?_, f2.updF hD, f3, acc ++ [v], upd_same, ?_⟩
          · exact f1.updB f3 trivial fun j s e hl => f2.lentP h1.wipe hD e hl
          · have cD : Car (Av (wipeS (slots t') vs) (L2.wipe σ vs) (Bp B D)) (Av (wipeS (slots t') vs) (L2.wipe σ vs) (Bp B D)) H6 (upd H6 D (.lst (acc ++ [v]))) :=
              ⟨fun a xs n q => ⟨n, rd_keep (fun o e => by rw [upd_ne fun z => n (.inr (.inr z))]; exact e) q⟩, fun a xs n q => ⟨n, xt_keep (fun o e => by rw [upd_ne fun z => n (.inr (.inr z))]; exact e) q⟩⟩
            have qv : Rep X.K (Av (wipeS (slots t') vs) (L2.wipe σ vs) (Bp B D)) H6 v (h y) := q6.car (Car.imp fun a z => z.imp (fun z => by
              rw [← eS, ← ew] at z
              exact own_wipe1 z) id)
            rw [List.map_append]
            exact (f5.append (.one qv)).car cD
  · have e : i = xs.length := by omega
    subst e
    rw [List.drop_length] at hcm
    have hcm : some (([] : List β), t) = some (rest, t1) := hcm
    injection hcm with hcm
    have e1 := congrArg Prod.fst hcm
    have e2 := congrArg Prod.snd hcm
    dsimp only at e1 e2
    subst e1 e2
    rw [List.append_nil] at hzs
    subst hzs
    obtain ⟨a1, a2, a3⟩ := unwipe h1 (B' := Bp B D) (fun a z => z.imp id fun z => by rw [z]; exact hD) hn (hv t) (hl t) hh2 r2
    exact .inl ⟨j2 _ (by rw [List.length_map]; exact Nat.le_refl _), k D H2 (r1.free hD) (fun z => nD (a3 D z)) a1 (r1.trans a2) ⟨acc, eD, ra.car (Car.imp fun a z => z.imp (a3 a) id)⟩⟩
theorem df_lc {scope : Scope} {own : List (Str × Nat)} (h : ∀ X, G.Ok X → LcP X elt tg iter ifs scope own (tF X.K S o S1)) (hs : ∀ env x, foldedSetIterable iter env x = Pure.pure x := by intro _ _; rfl) : DF G (.ListComp elt [⟨tg, iter, ifs, 0⟩] scope pos) S o S1 := fun X ok => by
  obtain ⟨wi, g, tt, te, h1, h2, h3, h4, h5, h6⟩ := h X ok
  exact PE_weak (pe_lc ok.calm ok.nd h1 h2 h3 h4 h5 (hs _)) h6
def isLoc (sc : Scope) (x : Str) : Bool := match sc.kind, sc.names.lookup x with
  | .function, some .local => true
  | _, _ => false
theorem isLoc_of {sc : Scope} {x : Str} (h : isLoc sc x = true) : sc.kind = .function ∧ sc.names.lookup x = some .local := by
  unfold isLoc at h
  split at h
  · exact ⟨by assumption, by assumption⟩
  · cases h
/-- x = [..] on one line -/
theorem ds_setLc {x : Str} {i : Nat} {scope : Scope} {own : List (Str × Nat)} (hx : G.tab.lookup x = some i) (hl : G.loc.elem x = true) (hk : isLoc G.sc x = true) (h : ∀ X, G.Ok X → LcP X elt tg iter ifs scope own (tF X.K S o S1)) (hio : noIo S1 i = true := by rfl)
    (hpl : (p1.line == pos.line) = true := by rfl) (ha : (scope.names.any fun (n, k) => n == x && (k == .local || k == .cell)) = false := by rfl) (hs : ∀ env x, foldedSetIterable iter env x = Pure.pure x := by intro _ _; rfl) {spos : Pos} :
    DS G (.Assign [.Name x p1] (.ListComp elt [⟨tg, iter, ifs, 0⟩] scope pos) spos) S (.nx (S1.set i (.own o))) := fun X ok => by
  obtain ⟨wi, g, tt, te, h1, h2, h3, h4, h5, h6⟩ := h X ok
  have hloc : X.env.scope.names.lookup x = some .local := by
    rw [ok.sc]
    exact (isLoc_of hk).2
  have hkind : X.env.scope.kind = .function := by
    rw [ok.sc]
    exact (isLoc_of hk).1
  refine PS_weak (ps_setLc ok.calm ok.nd (ok.var hx).1 hloc (sw_true hkind hloc hpl ha) h1 h2 h3 h4 h5 (hs _)) fun D σ H ⟨B, hh, k⟩ => ?_
  refine h6 σ H _ ⟨B, hh, fun p H1 hp n hh1 r1 q1 => ?_⟩
  obtain ⟨a1, a2⟩ := Holds.setP hh r1 hp n hh1 q1 hio
  exact k _ H1 a1 a2
end
end Pw
namespace Pw
open PySem PySem.Spec L2

/-! ### the boot's own names -/
theorem bo_int : bootBuiltins "int" = some (Value.type "int") := by decide +kernel
theorem bo_tuple : bootBuiltins "tuple" = some (Value.type "tuple") := by decide +kernel
theorem bo_list : bootBuiltins "list" = some (Value.type "list") := by decide +kernel
theorem bo_abs : bootBuiltins "abs" = some (Value.builtin "abs") := by decide +kernel
theorem bo_max : bootBuiltins "max" = some (Value.builtin "max") := by decide +kernel
theorem bo_min : bootBuiltins "min" = some (Value.builtin "min") := by decide +kernel
theorem bo_sum : bootBuiltins "sum" = some (Value.builtin "sum") := by decide +kernel
theorem bo_any : bootBuiltins "any" = some (Value.builtin "any") := by decide +kernel
theorem bo_all : bootBuiltins "all" = some (Value.builtin "all") := by decide +kernel
theorem bo_sorted : bootBuiltins "sorted" = some (Value.builtin "sorted") := by decide +kernel
theorem bo_str : bootBuiltins "str" = some (Value.type "str") := by decide +kernel

section
variable {α : Type} {G : Cxt} {S S1 S2 S3 : List Sl} {a b c e : Expr} {es : List Expr} {d d1 d2 : PyData} {ds ds2 : List PyData} {o : Ob} {pos p1 p2 : Pos} {K : PySem.W.Frag} {A B : AP} {σ : L2.St} {H H' : Hp} {p : Addr} {vs : List V} {i : Int} {x : Str}

/-! ### items -/
theorem reps_atI (r : Reps K A H vs ds) (h : atI ds i = some d) : ∃ v, atI vs i = some v ∧ Rep K A H v d := by
  unfold atI at h ⊢
  rw [r.length]
  cases q : ixN ds.length i with
  | none => rw [q] at h; cases h
  | some j => rw [q] at h; exact r.get h
theorem atI_map {f : α → PyData} {xs : List α} {y : α} (h : atI xs i = some y) : atI (xs.map f) i = some (f y) := by
  unfold atI at h ⊢
  rw [List.length_map]
  cases q : ixN xs.length i with
  | none => rw [q] at h; cases h
  | some j =>
    rw [q] at h
    show (xs.map f)[j]? = _
    rw [List.getElem?_map, show xs[j]? = some y from h]
    rfl
def cutL {α : Type} (xs : List α) (lo hi : Option Int) : List α := (xs.drop (HT.sIx xs.length 0 lo)).take (HT.sIx xs.length xs.length hi - HT.sIx xs.length 0 lo)
theorem cutL_map {f : α → PyData} {xs : List α} {lo hi : Option Int} : cutL (xs.map f) lo hi = (cutL xs lo hi).map f := by
  unfold cutL
  rw [List.length_map, List.map_take, List.map_drop]
theorem reps_cut (r : Reps K A H vs ds) {lo hi : Option Int} : Reps K A H (cutV vs lo hi) (cutL ds lo hi) := by
  unfold cutV cutL
  rw [r.length]
  exact (r.drop _).take _
theorem de_eq (h : DE G e S d S1) (q : d = d1) : DE G e S d1 S1 := q ▸ h
theorem dt_eq {k k1 : Bool} (h : DT G e S k S1) (q : k = k1) : DT G e S k1 S1 := q ▸ h
theorem db_eq {o1 : Ob} (h : DB G e S o S1) (q : o = o1) : DB G e S o1 S1 := q ▸ h
theorem df_eq {o1 : Ob} (h : DF G e S o S1) (q : o = o1) : DF G e S o1 S1 := q ▸ h
theorem di_eq {tg : Expr} (h : DI G tg e S ds S1) (q : ds = ds2) : DI G tg e S ds2 S1 := q ▸ h
theorem de_ixL (ha : DB G a S (.lst ds) S1) (hb : DE G b S1 (.int i) S2) (h : atI ds i = some d) (hs : PlainIx b := by intro _ _; rfl) : DE G (.Subscript a b pos) S d S2 := fun X ok =>
  PE_weak (pe_ix ix_list (ha X ok) (hb X ok) hs) fun σ H Q ⟨B, hh, k⟩ => ⟨B, hh, fun p H1 h1 r1 ⟨xs, la, rs⟩ => ⟨B, h1, fun u H2 h2 r2 q2 => by
    have q3 := ObRd.car (o := .lst ds) r2.car r2.cdO ⟨xs, la, rs⟩
    obtain ⟨ys, lb, rb⟩ := q3
    obtain ⟨v, ev, rv⟩ := reps_atI rb h
    exact ⟨p, ys, i, v, rfl, rep_int q2, lb.sq, ev, k v H2 h2 (r1.trans r2) rv⟩⟩⟩
theorem de_ixT (ha : DE G a S (.tuple ds) S1) (hb : DE G b S1 (.int i) S2) (h : atI ds i = some d) (hs : PlainIx b := by intro _ _; rfl) : DE G (.Subscript a b pos) S d S2 := fun X ok =>
  PE_weak (pe_ix ix_tup (ha X ok) (hb X ok) hs) fun σ H Q ⟨B, hh, k⟩ => ⟨B, hh, fun v0 H1 h1 r1 q1 => ⟨B, h1, fun u H2 h2 r2 q2 => by
    have q3 := q1.car r2.car
    cases q3 with
    | @tup p ys _ lb rb =>
      obtain ⟨v, ev, rv⟩ := reps_atI rb h
      exact ⟨p, ys, i, v, rfl, rep_int q2, lb.sq, ev, k v H2 h2 (r1.trans r2) rv⟩⟩⟩
theorem de_ixS {c : Nat} (ha : DE G a S (.str x) S1) (hb : DE G b S1 (.int i) S2) (h : atI x.cps.toList i = some c) (hz : x.length ≤ sizeLine) (hs : PlainIx b := by intro _ _; rfl) : DE G (.Subscript a b pos) S (.str ⟨#[c]⟩) S2 := fun X ok =>
  PE_weak (pe_ix ix_str (ha X ok) (hb X ok) hs) fun σ H Q ⟨B, hh, k⟩ => ⟨B, hh, fun v0 H1 h1 r1 q1 => ⟨B, h1, fun u H2 h2 r2 q2 =>
    ⟨x, i, c, rep_str q1, rep_int q2, hz, h, k _ H2 h2 (r1.trans r2) (.str _)⟩⟩⟩

/-! ### slices -/
def tOi (K : PySem.W.Frag) (S : List Sl) (v : Option Int) (S' : List Sl) : TO := fun σ H Q => ∃ B, Holds K B S σ H ∧ ∀ H', Holds K B S' σ H' → Rel S σ H S' σ H' → Q v H'
def DO (G : Cxt) (e : Option Expr) (S : List Sl) (v : Option Int) (S' : List Sl) : Prop := ∀ X, G.Ok X → PO X e (tOi X.K S v S')
theorem do_none : DO G none S none S := fun X ok => PO_weak po_none fun σ H Q ⟨B, hh, k⟩ => k H hh Rel.refl
theorem do_some (h : DE G e S (.int i) S1) : DO G (some e) S (some i) S1 := fun X ok => PO_weak (po_some (h X ok)) fun σ H Q ⟨B, hh, k⟩ => ⟨B, hh, fun v H1 h1 r1 q1 => ⟨i, rep_int q1, k H1 h1 r1⟩⟩
section
variable {lo hi : Option Expr} {vl vh : Option Int}
theorem df_slL (ha : DB G a S (.lst ds) S1) (h1 : DO G lo S1 vl S2) (h2 : DO G hi S2 vh S3) : DF G (.Subscript a (.Slice lo hi none p2) pos) S (.lst (cutL ds vl vh)) S3 := fun X ok =>
  PE_weak (pe_slice sl_list (ha X ok) (h1 X ok) (h2 X ok)) fun σ H Q ⟨B, hh, k⟩ => ⟨B, hh, fun p H1 hh1 r1 q1 => ⟨B, hh1, fun H2 hh2 r2 => ⟨B, hh2, fun H3 hh3 r3 => by
    obtain ⟨xs, la, rs⟩ := ObRd.car (o := .lst ds) (r2.trans r3).car (r2.trans r3).cdO q1
    have rr := (r1.trans r2).trans r3
    refine ⟨p, xs, rfl, la.sq, fun q hq => ?_⟩
    exact k q _ (rr.free hq) (hh3.free hq) (hh3.newB hq trivial) (rr.trans (Rel.same (upd_keep hq))) ⟨_, upd_same, (reps_cut rs).new (upd_keep hq) hq⟩⟩⟩⟩
theorem de_slT (ha : DE G a S (.tuple ds) S1) (h1 : DO G lo S1 vl S2) (h2 : DO G hi S2 vh S3) : DE G (.Subscript a (.Slice lo hi none p2) pos) S (.tuple (cutL ds vl vh)) S3 := fun X ok =>
  PE_weak (pe_slice sl_tupX (ha X ok) (h1 X ok) (h2 X ok)) fun σ H Q ⟨B, hh, k⟩ => ⟨B, hh, fun v0 H1 hh1 r1 q1 => ⟨B, hh1, fun H2 hh2 r2 => ⟨B, hh2, fun H3 hh3 r3 => by
    have q3 := q1.car (r2.trans r3).car
    have rr := (r1.trans r2).trans r3
    cases q3 with
    | @tup p xs _ la rs =>
      refine ⟨p, xs, rfl, la.sq, fun hw => ?_, fun hw q ob hq hb => ?_⟩
      · have e : cutL ds vl vh = ds := by
          unfold cutL
          rw [← rs.length, hw.1, hw.2, List.drop_zero, Nat.sub_zero]
          exact List.take_of_length_le (Nat.le_of_eq rs.length.symm)
        rw [e] at k
        exact k _ H3 hh3 rr (.tup la rs)
      · exact k _ _ (hh3.same (upd_keep hq)) (rr.trans (Rel.same (upd_keep hq))) (.tup (.inl ⟨hh3.freeAv hq, xt_new hb⟩) ((reps_cut rs).same (upd_keep hq)))⟩⟩⟩
theorem de_slS (ha : DE G a S (.str x) S1) (h1 : DO G lo S1 vl S2) (h2 : DO G hi S2 vh S3) (hz : x.length ≤ sizeLine) : DE G (.Subscript a (.Slice lo hi none p2) pos) S (.str (cutS x vl vh)) S3 := fun X ok =>
  PE_weak (pe_slice sl_str (ha X ok) (h1 X ok) (h2 X ok)) fun σ H Q ⟨B, hh, k⟩ => ⟨B, hh, fun v0 H1 hh1 r1 q1 => ⟨B, hh1, fun H2 hh2 r2 => ⟨B, hh2, fun H3 hh3 r3 =>
    ⟨x, rep_str q1, hz, k _ H3 hh3 ((r1.trans r2).trans r3) (.str _)⟩⟩⟩⟩
end
theorem df_revL {k : Nat} {q1 q2 q3 : Pos} (ha : DB G a S (.lst ds) S1) : DF G (.Subscript a (.Slice none none (some (.UnaryOp .USub (.Constant (.int 1) k q1) q2)) q3) pos) S (.lst ds.reverse) S1 := fun X ok =>
  PE_weak (pe_revL (ha X ok)) fun σ H Q ⟨B, hh, k⟩ => ⟨B, hh, fun p H1 h1 r1 ⟨xs, la, rs⟩ => ⟨p, xs, rfl, la.sq, fun q hq =>
    k q _ (r1.free hq) (h1.free hq) (h1.newB hq trivial) (r1.trans (Rel.same (upd_keep hq))) ⟨_, upd_same, rs.rev.new (upd_keep hq) hq⟩⟩⟩

/-! ### calls of built-ins -/
theorem de_blt {f : Value} {fn id : String} {es : List Expr} {r : List V → Hp → VK → Prop} (h : ∀ X, G.Ok X → PE X e (tCB r (tDs X.K S ds S1))) (k : ∀ (K : PySem.W.Frag) (A : AP) vs H Q, Reps K A H vs ds → (∀ v, (∀ A H, Rep K A H v d) → Q v H) → r vs H Q) : DE G e S d S1 := fun X ok =>
  PE_weak (h X ok) fun σ H Q ⟨B, hh, kk⟩ => ⟨B, hh, fun vs H1 h1 r1 q1 => k X.K _ vs H1 Q q1 fun v hv => kk v H1 h1 r1 (hv _ _)⟩
theorem reps_one (h : Reps K A H vs [d]) : ∃ v, vs = [v] ∧ Rep K A H v d := by
  cases h with
  | cons r t => cases t; exact ⟨_, rfl, r⟩
theorem reps_two (h : Reps K A H vs [d, d1]) : ∃ v u, vs = [v, u] ∧ Rep K A H v d ∧ Rep K A H u d1 := by
  cases h with
  | cons r t => cases t with
    | cons r2 t => cases t; exact ⟨_, _, rfl, r, r2⟩
theorem dd_one (h : DE G e S d S1) (hs : ∀ env, starEach [e] env = (false, eval e env) :: starEach [] env := by intro _; rfl) : DD G [e] S [d] S1 := dd_cons h dd_nil hs
theorem dd_two (h : DE G a S d S1) (h2 : DE G b S1 d1 S2) (hs : ∀ env, starEach [a, b] env = (false, eval a env) :: starEach [b] env := by intro _; rfl) (hs2 : ∀ env, starEach [b] env = (false, eval b env) :: starEach [] env := by intro _; rfl) : DD G [a, b] S [d, d1] S2 := dd_cons h (dd_one h2 hs2) hs
/-- one argument, an object to be read -/
def tBs (K : PySem.W.Frag) (S : List Sl) (o : Ob) (S' : List Sl) : TA := fun σ H Q => ∃ B, Holds K B S σ H ∧ ∀ a H', Holds K B S' σ H' → Rel S σ H S' σ H' → ObRd K (OwnA S' σ) (Av S' σ B) H' a o → Q [.ref a] H'
theorem pa_b {X : Cx} (h : PE X e (tB' X.K S o S1)) (hs : starEach [e] X.env = (false, eval e X.env) :: starEach [] X.env) : PA X [e] (tBs X.K S o S1) :=
  PA_weak (pa_cons h pa_nil hs) fun σ H Q ⟨B, hh, k⟩ => ⟨B, hh, fun a H1 h1 r1 q1 => k a H1 h1 r1 q1⟩
theorem de_lenT (hx : G.blt.elem ("len" : Str) = true) (h : DE G e S (.tuple ds) S1) (hs : ∀ env, starEach [e] env = (false, eval e env) :: starEach [] env := by intro _; rfl) (hp : ∀ env, (backTo pos (starEach ([] : List Expr) env)).any (·.1) = false := by intro _; rfl) : DE G (.Call (.Name "len" p1) [e] [] pos) S (.int ds.length) S1 := fun X ok => by
  obtain ⟨hg, hm, _, _⟩ := ok.gl (elem_mem hx)
  refine PE_weak (pe_callB call_len_seq hg hm PySem.boot_len (dd_one h hs X ok) (by decide) (by decide) (hs _) (hp _)) fun σ H Q ⟨B, hh, k⟩ => ⟨B, hh, fun vs H1 h1 r1 q1 => ?_⟩
  obtain ⟨v, rfl, rv⟩ := reps_one q1
  cases rv with
  | @tup p xs _ la rs =>
    refine ⟨p, xs, rfl, .inr la.sq, ?_⟩
    rw [rs.length]
    exact k _ H1 h1 r1 (.int _)
theorem de_lenL (hx : G.blt.elem ("len" : Str) = true) (h : DB G e S (.lst ds) S1) (hs : ∀ env, starEach [e] env = (false, eval e env) :: starEach [] env := by intro _; rfl) (hp : ∀ env, (backTo pos (starEach ([] : List Expr) env)).any (·.1) = false := by intro _; rfl) : DE G (.Call (.Name "len" p1) [e] [] pos) S (.int ds.length) S1 := fun X ok => by
  obtain ⟨hg, hm, _, _⟩ := ok.gl (elem_mem hx)
  refine PE_weak (pe_callB call_len_seq hg hm PySem.boot_len (pa_b (h X ok) (hs _)) (by decide) (by decide) (hs _) (hp _)) fun σ H Q ⟨B, hh, k⟩ => ⟨B, hh, fun p H1 h1 r1 ⟨xs, la, rs⟩ => ?_⟩
  refine ⟨p, xs, rfl, .inl la.sq, ?_⟩
  rw [rs.length]
  exact k _ H1 h1 r1 (.int _)
theorem de_lenS (hx : G.blt.elem ("len" : Str) = true) (h : DE G e S (.str x) S1) (hz : x.length ≤ sizeLine) (hs : ∀ env, starEach [e] env = (false, eval e env) :: starEach [] env := by intro _; rfl) (hp : ∀ env, (backTo pos (starEach ([] : List Expr) env)).any (·.1) = false := by intro _; rfl) : DE G (.Call (.Name "len" p1) [e] [] pos) S (.int x.length) S1 := fun X ok => by
  obtain ⟨hg, hm, _, _⟩ := ok.gl (elem_mem hx)
  refine PE_weak (pe_callB call_len_str hg hm PySem.boot_len (dd_one h hs X ok) (by decide) (by decide) (hs _) (hp _)) fun σ H Q ⟨B, hh, k⟩ => ⟨B, hh, fun vs H1 h1 r1 q1 => ?_⟩
  obtain ⟨v, rfl, rv⟩ := reps_one q1
  exact ⟨x, by rw [rep_str rv], hz, k _ H1 h1 r1 (.int _)⟩
theorem de_intI (hx : G.blt.elem ("int" : Str) = true) (h : DE G e S (.int i) S1) (hs : ∀ env, starEach [e] env = (false, eval e env) :: starEach [] env := by intro _; rfl) (hp : ∀ env, (backTo pos (starEach ([] : List Expr) env)).any (·.1) = false := by intro _; rfl) : DE G (.Call (.Name "int" p1) [e] [] pos) S (.int i) S1 := fun X ok => by
  obtain ⟨hg, hm, _, _⟩ := ok.gl (elem_mem hx)
  refine PE_weak (pe_callTy call_int1 hg hm bo_int (dd_one h hs X ok) (by decide) (by decide) (hs _) (hp _)) fun σ H Q ⟨B, hh, k⟩ => ⟨B, hh, fun vs H1 h1 r1 q1 => ?_⟩
  obtain ⟨v, rfl, rv⟩ := reps_one q1
  exact .inl ⟨i, by rw [rep_int rv], k _ H1 h1 r1 (.int _)⟩
theorem de_intB {t : Bool} (hx : G.blt.elem ("int" : Str) = true) (h : DE G e S (.bool t) S1) (hs : ∀ env, starEach [e] env = (false, eval e env) :: starEach [] env := by intro _; rfl) (hp : ∀ env, (backTo pos (starEach ([] : List Expr) env)).any (·.1) = false := by intro _; rfl) : DE G (.Call (.Name "int" p1) [e] [] pos) S (.int (if t then 1 else 0)) S1 := fun X ok => by
  obtain ⟨hg, hm, _, _⟩ := ok.gl (elem_mem hx)
  refine PE_weak (pe_callTy call_int1 hg hm bo_int (dd_one h hs X ok) (by decide) (by decide) (hs _) (hp _)) fun σ H Q ⟨B, hh, k⟩ => ⟨B, hh, fun vs H1 h1 r1 q1 => ?_⟩
  obtain ⟨v, rfl, rv⟩ := reps_one q1
  exact .inr ⟨t, by rw [rep_bl rv], k _ H1 h1 r1 (.int _)⟩
theorem de_abs (hx : G.blt.elem ("abs" : Str) = true) (h : DE G e S (.int i) S1) (hs : ∀ env, starEach [e] env = (false, eval e env) :: starEach [] env := by intro _; rfl) (hp : ∀ env, (backTo pos (starEach ([] : List Expr) env)).any (·.1) = false := by intro _; rfl) : DE G (.Call (.Name "abs" p1) [e] [] pos) S (.int (if i < 0 then -i else i)) S1 := fun X ok => by
  obtain ⟨hg, hm, _, _⟩ := ok.gl (elem_mem hx)
  refine PE_weak (pe_callB call_abs hg hm bo_abs (dd_one h hs X ok) (by decide) (by decide) (hs _) (hp _)) fun σ H Q ⟨B, hh, k⟩ => ⟨B, hh, fun vs H1 h1 r1 q1 => ?_⟩
  obtain ⟨v, rfl, rv⟩ := reps_one q1
  exact ⟨i, by rw [rep_int rv], k _ H1 h1 r1 (.int _)⟩
theorem de_max2 {j : Int} (hx : G.blt.elem ("max" : Str) = true) (h : DE G a S (.int i) S1) (h2 : DE G b S1 (.int j) S2) (hs : ∀ env, starEach [a, b] env = (false, eval a env) :: starEach [b] env := by intro _; rfl) (hs2 : ∀ env, starEach [b] env = (false, eval b env) :: starEach [] env := by intro _; rfl) (hp : ∀ env, (backTo pos (starEach [b] env)).any (·.1) = false := by intro _; rfl) : DE G (.Call (.Name "max" p1) [a, b] [] pos) S (.int (max i j)) S2 := fun X ok => by
  obtain ⟨hg, hm, _, _⟩ := ok.gl (elem_mem hx)
  refine PE_weak (pe_callB (call_max2 ok.calm) hg hm bo_max (dd_two h h2 hs hs2 X ok) (by decide) (by decide) (hs _) (hp _)) fun σ H Q ⟨B, hh, k⟩ => ⟨B, hh, fun vs H1 h1 r1 q1 => ?_⟩
  obtain ⟨v, u, rfl, rv, ru⟩ := reps_two q1
  refine ⟨i, j, by rw [rep_int rv, rep_int ru], ?_⟩
  rw [show (if j > i then j else i) = max i j by rw [Int.max_def]; split <;> split <;> omega]
  exact k _ H1 h1 r1 (.int _)
theorem de_min2 {j : Int} (hx : G.blt.elem ("min" : Str) = true) (h : DE G a S (.int i) S1) (h2 : DE G b S1 (.int j) S2) (hs : ∀ env, starEach [a, b] env = (false, eval a env) :: starEach [b] env := by intro _; rfl) (hs2 : ∀ env, starEach [b] env = (false, eval b env) :: starEach [] env := by intro _; rfl) (hp : ∀ env, (backTo pos (starEach [b] env)).any (·.1) = false := by intro _; rfl) : DE G (.Call (.Name "min" p1) [a, b] [] pos) S (.int (min i j)) S2 := fun X ok => by
  obtain ⟨hg, hm, _, _⟩ := ok.gl (elem_mem hx)
  refine PE_weak (pe_callB (call_min2 ok.calm) hg hm bo_min (dd_two h h2 hs hs2 X ok) (by decide) (by decide) (hs _) (hp _)) fun σ H Q ⟨B, hh, k⟩ => ⟨B, hh, fun vs H1 h1 r1 q1 => ?_⟩
  obtain ⟨v, u, rfl, rv, ru⟩ := reps_two q1
  refine ⟨i, j, by rw [rep_int rv, rep_int ru], ?_⟩
  rw [show (if j < i then j else i) = min i j by rw [Int.min_def]; split <;> split <;> omega]
  exact k _ H1 h1 r1 (.int _)
/-- tuple(xs), list(xs) -/
theorem de_tupL (hx : G.blt.elem ("tuple" : Str) = true) (h : DB G e S (.lst ds) S1) (hs : ∀ env, starEach [e] env = (false, eval e env) :: starEach [] env := by intro _; rfl) (hp : ∀ env, (backTo pos (starEach ([] : List Expr) env)).any (·.1) = false := by intro _; rfl) : DE G (.Call (.Name "tuple" p1) [e] [] pos) S (.tuple ds) S1 := fun X ok => by
  obtain ⟨hg, hm, _, _⟩ := ok.gl (elem_mem hx)
  refine PE_weak (pe_callTy call_tupleX hg hm bo_tuple (pa_b (h X ok) (hs _)) (by decide) (by decide) (hs _) (hp _)) fun σ H Q ⟨B, hh, k⟩ => ⟨B, hh, fun p H1 h1 r1 ⟨xs, la, rs⟩ => ?_⟩
  exact ⟨p, xs, rfl, la.sq, fun q ob hq hb => k _ _ (h1.same (upd_keep hq)) (r1.trans (Rel.same (upd_keep hq))) (.tup (.inl ⟨h1.freeAv hq, xt_new hb⟩) (rs.same (upd_keep hq)))⟩
theorem df_listT (hx : G.blt.elem ("list" : Str) = true) (h : DE G e S (.tuple ds) S1) (hs : ∀ env, starEach [e] env = (false, eval e env) :: starEach [] env := by intro _; rfl) (hp : ∀ env, (backTo pos (starEach ([] : List Expr) env)).any (·.1) = false := by intro _; rfl) : DF G (.Call (.Name "list" p1) [e] [] pos) S (.lst ds) S1 := fun X ok => by
  obtain ⟨hg, hm, _, _⟩ := ok.gl (elem_mem hx)
  refine PE_weak (pe_callTy call_list_of hg hm bo_list (dd_one h hs X ok) (by decide) (by decide) (hs _) (hp _)) fun σ H Q ⟨B, hh, k⟩ => ⟨B, hh, fun vs H1 h1 r1 q1 => ?_⟩
  obtain ⟨v, rfl, rv⟩ := reps_one q1
  cases rv with
  | @tup p xs _ la rs => exact ⟨p, xs, rfl, .inr la.sq, fun q hq => k q _ (r1.free hq) (h1.free hq) (h1.newB hq trivial) (r1.trans (Rel.same (upd_keep hq))) ⟨_, upd_same, rs.new (upd_keep hq) hq⟩⟩
theorem df_listL (hx : G.blt.elem ("list" : Str) = true) (h : DB G e S (.lst ds) S1) (hs : ∀ env, starEach [e] env = (false, eval e env) :: starEach [] env := by intro _; rfl) (hp : ∀ env, (backTo pos (starEach ([] : List Expr) env)).any (·.1) = false := by intro _; rfl) : DF G (.Call (.Name "list" p1) [e] [] pos) S (.lst ds) S1 := fun X ok => by
  obtain ⟨hg, hm, _, _⟩ := ok.gl (elem_mem hx)
  refine PE_weak (pe_callTy call_list_of hg hm bo_list (pa_b (h X ok) (hs _)) (by decide) (by decide) (hs _) (hp _)) fun σ H Q ⟨B, hh, k⟩ => ⟨B, hh, fun p H1 h1 r1 ⟨xs, la, rs⟩ => ?_⟩
  exact ⟨p, xs, rfl, .inl la.sq, fun q hq => k q _ (r1.free hq) (h1.free hq) (h1.newB hq trivial) (r1.trans (Rel.same (upd_keep hq))) ⟨_, upd_same, rs.new (upd_keep hq) hq⟩⟩

/-! ### in, + -/
theorem cr_inT (hx : PyData.plainAll ds = true) (hd : d.plain = true) (hz : d.depth ≤ 100) : CR G .In d (.tuple ds) (ds.any fun y => PyData.eqv y d) := cr_dat fun X ok pins s σ H x y v u Q I rx ry ⟨A, h1, h2, q⟩ => by
  obtain ⟨as, r1⟩ := h1.reads I rx
  obtain ⟨bs, r2⟩ := h2.reads I ry
  refine SeqAt.in_tuple_data r2 r1 hx hd ?_ ⟨.bl _, H, I, rfl, q⟩
  have := ok.un
  omega
theorem cr_ninT (hx : PyData.plainAll ds = true) (hd : d.plain = true) (hz : d.depth ≤ 100) : CR G .NotIn d (.tuple ds) (!ds.any fun y => PyData.eqv y d) := cr_dat fun X ok pins s σ H x y v u Q I rx ry ⟨A, h1, h2, q⟩ => by
  obtain ⟨as, r1⟩ := h1.reads I rx
  obtain ⟨bs, r2⟩ := h2.reads I ry
  refine SeqAt.notIn_tuple_data r2 r1 hx hd ?_ ⟨.bl _, H, I, rfl, q⟩
  have := ok.un
  omega
theorem cr_inL (hx : PyData.plainAll ds = true) (hd : d.plain = true) (hz : d.depth ≤ 100) : CR G .In d (.list ds) (ds.any fun y => PyData.eqv y d) := cr_dat fun X ok pins s σ H x y v u Q I rx ry ⟨A, h1, h2, q⟩ => by
  obtain ⟨as, r1⟩ := h1.reads I rx
  obtain ⟨bs, r2⟩ := h2.reads I ry
  refine SeqAt.in_list_data r2 r1 hx hd ?_ ⟨.bl _, H, I, rfl, q⟩
  have := ok.un
  omega
theorem cr_ninL (hx : PyData.plainAll ds = true) (hd : d.plain = true) (hz : d.depth ≤ 100) : CR G .NotIn d (.list ds) (!ds.any fun y => PyData.eqv y d) := cr_dat fun X ok pins s σ H x y v u Q I rx ry ⟨A, h1, h2, q⟩ => by
  obtain ⟨as, r1⟩ := h1.reads I rx
  obtain ⟨bs, r2⟩ := h2.reads I ry
  refine SeqAt.notIn_list_data r2 r1 hx hd ?_ ⟨.bl _, H, I, rfl, q⟩
  have := ok.un
  omega
/-- .. the right side an object that is lent -/
theorem rd_rep (h : ObRd K A B H p (.lst ds)) : Rep K (fun _ => False) H (.ref p) (.list ds) := by
  obtain ⟨xs, la, rs⟩ := h
  refine .lst ?_ (rs.car (Car.imp fun _ z => z.elim))
  rcases la with ⟨_, la⟩ | la
  · exact .inl ⟨id, la⟩
  · exact .inr la
theorem Rep.noA {v : V} (h : Rep K A H v d) : Rep K (fun _ => False) H v d := h.car (Car.imp fun _ z => z.elim)
theorem dt_cB {op : CmpOp} {k1 : Bool} (h : ∀ X, G.Ok X → OpR X (compareOp op) (rDat X.K d (.list ds) k1)) (ha : DE G a S d S1) (hb : DB G b S1 (.lst ds) S2) (hm : behindInMarks op b = false := by rfl) : DT G (.Compare a [op] [b] pos) S k1 S2 := fun X ok =>
  PT_weak (pt_cmpR (h X ok) (ha X ok) (hb X ok) hm) fun σ H Q ⟨B, hh, k⟩ => ⟨B, hh, fun v H1 h1 r1 q1 => ⟨B, h1, fun u H2 h2 r2 q2 => ⟨_, (q1.car r2.car).noA, rd_rep q2, k1, rfl, k H2 h2 (r1.trans r2)⟩⟩⟩
theorem de_cB {op : CmpOp} {k1 : Bool} (h : ∀ X, G.Ok X → OpR X (compareOp op) (rDat X.K d (.list ds) k1)) (ha : DE G a S d S1) (hb : DB G b S1 (.lst ds) S2) (hm : behindInMarks op b = false := by rfl) : DE G (.Compare a [op] [b] pos) S (.bool k1) S2 := fun X ok =>
  PE_weak (pe_cmpR (h X ok) (ha X ok) (hb X ok) hm) fun σ H Q ⟨B, hh, k⟩ => ⟨B, hh, fun v H1 h1 r1 q1 => ⟨B, h1, fun u H2 h2 r2 q2 => ⟨_, (q1.car r2.car).noA, rd_rep q2, k _ H2 h2 (r1.trans r2) (.bl _)⟩⟩⟩
theorem or_inL (hx : PyData.plainAll ds = true) (hd : d.plain = true) (hz : d.depth ≤ 100) : ∀ X, G.Ok X → OpR X (compareOp .In) (rDat X.K d (.list ds) (ds.any fun y => PyData.eqv y d)) := fun X ok pins s σ H x y v u Q I rx ry ⟨A, h1, h2, q⟩ => by
  obtain ⟨as, r1⟩ := h1.reads I rx
  obtain ⟨bs, r2⟩ := h2.reads I ry
  refine SeqAt.in_list_data r2 r1 hx hd ?_ ⟨.bl _, H, I, rfl, q⟩
  have := ok.un
  omega
theorem or_ninL (hx : PyData.plainAll ds = true) (hd : d.plain = true) (hz : d.depth ≤ 100) : ∀ X, G.Ok X → OpR X (compareOp .NotIn) (rDat X.K d (.list ds) (!ds.any fun y => PyData.eqv y d)) := fun X ok pins s σ H x y v u Q I rx ry ⟨A, h1, h2, q⟩ => by
  obtain ⟨as, r1⟩ := h1.reads I rx
  obtain ⟨bs, r2⟩ := h2.reads I ry
  refine SeqAt.notIn_list_data r2 r1 hx hd ?_ ⟨.bl _, H, I, rfl, q⟩
  have := ok.un
  omega
theorem de_catT (ha : DE G a S (.tuple ds) S1) (hb : DE G b S1 (.tuple ds2) S2) (hz : ds.length + ds2.length ≤ sizeLine) : DE G (.BinOp a .Add b pos) S (.tuple (ds ++ ds2)) S2 := fun X ok =>
  PE_weak (pe_op op_catX (ha X ok) (hb X ok)) fun σ H Q ⟨B, hh, k⟩ => ⟨B, hh, fun v H1 h1 r1 q1 => ⟨B, h1, fun u H2 h2 r2 q2 => by
    have q3 := q1.car r2.car
    cases q3 with
    | @tup p xs _ la rs => cases q2 with
      | @tup q ys _ lb rb =>
        refine ⟨p, q, xs, ys, rfl, rfl, la.sq, lb.sq, by rw [rs.length, rb.length]; exact hz, fun e => ?_, fun _ e => ?_, fun _ _ n ob hn hb => ?_⟩
        · subst e
          cases rs
          exact k _ H2 h2 (r1.trans r2) (.tup lb rb)
        · subst e
          cases rb
          rw [List.append_nil] at k
          exact k _ H2 h2 (r1.trans r2) (.tup la rs)
        · exact k _ _ (h2.same (upd_keep hn)) ((r1.trans r2).trans (Rel.same (upd_keep hn))) (.tup (.inl ⟨h2.freeAv hn, xt_new hb⟩) ((rs.append rb).same (upd_keep hn)))⟩⟩
theorem de_catS {y : Str} (ha : DE G a S (.str x) S1) (hb : DE G b S1 (.str y) S2) (hz : x.length + y.length ≤ sizeLine) : DE G (.BinOp a .Add b pos) S (.str (x ++ y)) S2 := fun X ok =>
  PE_weak (pe_op op_add_str (ha X ok) (hb X ok)) fun σ H Q ⟨B, hh, k⟩ => ⟨B, hh, fun v H1 h1 r1 q1 => ⟨B, h1, fun u H2 h2 r2 q2 => ⟨x, y, rep_str q1, rep_str q2, hz, k _ H2 h2 (r1.trans r2) (.str _)⟩⟩⟩
end
end Pw
namespace Pw
open PySem PySem.Spec L2

section
variable {α : Type} {G : Cxt} {S S1 S2 S3 : List Sl} {a b c e : Expr} {es : List Expr} {d d1 d2 : PyData} {ds ds2 : List PyData} {o o' o1 o2 : Ob} {s s1 : Sl} {pos p1 p2 : Pos} {K : PySem.W.Frag} {A B : AP} {σ : L2.St} {H H' : Hp} {p : Addr} {vs : List V} {i : Nat} {j : Int} {x : Str} {u : HO}

/-! ### an own object is changed -/
inductive Mine : Sl → Ob → Prop
  | own {o : Ob} : Mine (.own o) o
  | io {o : Ob} : Mine (.io o) o
theorem Mine.or (h : Mine s o) : s = .own o ∨ s = .io o := by
  cases h with
  | own => exact .inl rfl
  | io => exact .inr rfl
theorem Mine.ow (h : Mine s o) : own? s = true := by cases h <;> rfl
theorem Mine.re (h : Mine s o) : own? (reob s o') = true := by cases h <;> rfl
theorem Holds.mine (h : Holds K B S σ H) (e : S[i]? = some s) (m : Mine s o) : ∃ p, σ[i]? = some (some (V.ref p)) ∧ ObAt K (Av S σ B) H p o := by
  have q := h.sl i s e
  cases m <;> exact q
theorem ownA_reob (e : S[i]? = some s) (m : Mine s o) {a : Addr} : OwnA (S.set i (reob s o')) σ a ↔ OwnA S σ a := by
  constructor
  · rintro ⟨j, t, e1, ht, er⟩
    rcases get_set e1 with ⟨rfl, rfl, _⟩ | ⟨ne, e1⟩
    · exact ⟨i, s, e, m.ow, er⟩
    · exact ⟨j, t, e1, ht, er⟩
  · rintro ⟨j, t, e1, ht, er⟩
    have hi : i < S.length := (List.getElem?_eq_some_iff.mp e).1
    by_cases z : i = j
    · subst z
      exact ⟨i, _, List.getElem?_set_self hi, m.re, er⟩
    · exact ⟨j, t, by rw [List.getElem?_set_ne z]; exact e1, ht, er⟩
theorem Holds.updO (h : Holds K B S σ H) (e : S[i]? = some s) (m : Mine s o) (er : σ[i]? = some (some (V.ref p))) (mu : Mut (some u)) (q : ObAt K (Av S σ B) (upd H p u) p o') :
    Holds K B (S.set i (reob s o')) σ (upd H p u) ∧ Rel S σ H (S.set i (reob s o')) σ (upd H p u) := by
  have ow : OwnA S σ p := ⟨i, s, e, m.ow, er⟩
  have eqO : ∀ a, OwnA (S.set i (reob s o')) σ a → OwnA S σ a := fun a z => (ownA_reob e m).mp z
  have eqA : ∀ a, Av (S.set i (reob s o')) σ B a → Av S σ B a := fun a z => z.imp (eqO a) id
  have ne : ∀ a, ¬ OwnA S σ a → a ≠ p := fun a n z => n (z ▸ ow)
  have kp : ∀ a v, ¬ OwnA S σ a → H a = some v → upd H p u a = some v := fun a v n z => by rw [upd_ne (ne a n)]; exact z
  have c : Car (Av S σ B) (Av (S.set i (reob s o')) σ B) H (upd H p u) := ⟨fun a xs n z => ⟨fun w => n (eqA a w), rd_keep (fun o e => kp a o (fun w => n (.inl w)) e) z⟩, fun a xs n z => ⟨fun w => n (eqA a w), xt_keep (fun o e => kp a o (fun w => n (.inl w)) e) z⟩⟩
  refine ⟨⟨by rw [List.length_set]; exact h.len, fun j t e1 => ?_, fun j k t w a e1 e2 o1 o2 r1 r2 => ?_, fun a z => ?_⟩, ⟨fun a v z n => kp a v n z, fun a z => .inl (eqO a z), fun j o1 e1 => ?_, List.length_set, fun j o1 e1 => ?_, fun j t e1 hl => ?_, fun a v z => ?_⟩⟩
  · rcases get_set e1 with ⟨rfl, rfl, _⟩ | ⟨nj, e1⟩
    · have q2 : ObAt K (Av (S.set i (reob s o')) σ B) (upd H p u) p o' := q.car (Car.imp eqA) fun _ e => e
      cases m <;> exact ⟨p, er, q2⟩
    · refine (h.sl j t e1).car c (fun a v n z => ⟨fun w => n (eqO a w), kp a v n z⟩) fun ho a ea v z => ?_
      have na : a ≠ p := fun w => nj (h.inj i j s t p e e1 m.ow ho er (by rw [← w]; exact ea))
      rw [upd_ne na]; exact z
  · have g : ∀ {j : Nat} {t : Sl}, (S.set i (reob s o'))[j]? = some t → own? t = true → ∃ t', S[j]? = some t' ∧ own? t' = true := fun {j t} e1 ho => by
      rcases get_set e1 with ⟨rfl, rfl, _⟩ | ⟨_, e1⟩
      · exact ⟨s, e, m.ow⟩
      · exact ⟨t, e1, ho⟩
    obtain ⟨t', f1, f2⟩ := g e1 o1
    obtain ⟨w', f3, f4⟩ := g e2 o2
    exact h.inj j k t' w' a f1 f3 f2 f4 r1 r2
  · by_cases w : a = p
    · rw [w, upd_same]; exact mu
    · rw [upd_ne w]; exact h.bm a z
  · by_cases z : i = j
    · subst z
      rw [e] at e1
      cases e1
      cases m
      exact ⟨rfl, o', List.getElem?_set_self (List.getElem?_eq_some_iff.mp e).1⟩
    · exact ⟨rfl, o1, by rw [List.getElem?_set_ne z]; exact e1⟩
  · rcases get_set e1 with ⟨rfl, e2, _⟩ | ⟨_, e1⟩
    · cases m with
      | own => cases e2
      | io => exact ⟨_, e⟩
    · exact ⟨o1, e1⟩
  · rcases get_set e1 with ⟨rfl, rfl, _⟩ | ⟨_, e1⟩
    · cases m <;> cases hl
    · exact ⟨e1, rfl⟩
  · by_cases w : a = p
    · exact ⟨u, by rw [w, upd_same]⟩
    · exact ⟨v, by rw [upd_ne w]; exact z⟩
theorem Car.upd (ow : OwnA S σ p) : Car (Av S σ B) (Av S σ B) H (L2.upd H p u) := by
  have ne : ∀ a, ¬ Av S σ B a → a ≠ p := fun a n w => by subst w; exact n (.inl ow)
  exact ⟨fun a xs n z => ⟨n, rd_keep (fun o e => by rw [upd_ne (ne a n)]; exact e) z⟩, fun a xs n z => ⟨n, xt_keep (fun o e => by rw [upd_ne (ne a n)]; exact e) z⟩⟩
theorem Reps.upd (h : Reps K (Av S σ B) H vs ds) (ow : OwnA S σ p) : Reps K (Av S σ B) (L2.upd H p u) vs ds := h.car (Car.upd ow)
theorem Rep.upd {v : V} (h : Rep K (Av S σ B) H v d) (ow : OwnA S σ p) : Rep K (Av S σ B) (L2.upd H p u) v d := h.car (Car.upd ow)

/-! ### methods of lists -/
theorem de_append {nm : Pos} (hx : G.tab.lookup x = some i) (h0 : S[i]? = some s) (m0 : Mine s (.lst ds)) (he : DE G e S d S1) (h1 : S1[i]? = some s1) (m1 : Mine s1 (.lst ds2)) (hz : ds2.length < sizeLine)
    (ha : ∀ env, attributeBase (.Name x p1) "append" env (eval (.Name x p1) env) = eval (.Name x p1) env := by intro _; rfl)
    (hf : ∀ env, ((backTo pos (starEach [e] env)).all (fun x => !x.1) && (backToKw pos (keywordEach [] env)).all (fun x => x.1.isSome) && decide (([e] : List Expr).length + ([] : List Keyword).length + (if ([] : List Keyword).isEmpty then 0 else 1) < 30)) = true := by intro _; rfl)
    (hl : (nm.endLine == pos.line) = true := by rfl) (hs : ∀ env, starEach [e] env = (false, eval e env) :: starEach [] env := by intro _; rfl) (hp : ∀ env, (backTo pos (starEach ([] : List Expr) env)).any (·.1) = false := by intro _; rfl) :
    DE G (.Call (.Attribute (.Name x p1) "append" nm) [e] [] pos) S .none (S1.set i (reob s1 (.lst (ds2 ++ [d])))) := fun X ok => by
  obtain ⟨v1, v2, v3, v4⟩ := ok.var hx
  refine PE_weak (pe_bm PySem.F.plainAttrs_list PySem.F.slot_list_append PySem.F.type_list_append mt_append (pe_var v1 v2 v3 v4) (pa_cons (he X ok) pa_nil (hs _)) (ha _) (hf _) hl (hs _) (hp _)) fun σ H Q ⟨B, hh, k⟩ => ?_
  obtain ⟨p, er, xs, ex, rx⟩ := hh.mine h0 m0
  refine ⟨.ref p, er, .inl ⟨rfl, xs, .inl (.inl ex)⟩, B, hh, fun v H1 hh1 r1 q1 => ?_⟩
  obtain ⟨p', er', ys, ey, ry⟩ := hh1.mine h1 m1
  rw [er] at er'; cases er'
  refine ⟨p, ys, v, rfl, rfl, ey, by rw [ry.length]; exact hz, ?_⟩
  have ow : OwnA S1 σ p := ⟨i, s1, h1, m1.ow, er⟩
  obtain ⟨a1, a2⟩ := hh1.updO (u := .lst (ys ++ [v])) (o' := .lst (ds2 ++ [d])) h1 m1 er trivial ⟨_, upd_same, (ry.append (.one q1)).upd ow⟩
  exact k .non _ a1 (r1.trans a2) .non
theorem reps_last (r : Reps K A H vs ds) (h : ds.getLast? = some d) : ∃ v, vs[vs.length - 1]? = some v ∧ Rep K A H v d := by
  rw [List.getLast?_eq_getElem?] at h
  obtain ⟨v, e, q⟩ := r.get h
  exact ⟨v, by rw [r.length]; exact e, q⟩
theorem de_pop {nm : Pos} (hx : G.tab.lookup x = some i) (h0 : S[i]? = some s) (m0 : Mine s (.lst ds)) (hd : ds.getLast? = some d)
    (ha : ∀ env, attributeBase (.Name x p1) "pop" env (eval (.Name x p1) env) = eval (.Name x p1) env := by intro _; rfl) (hl : (nm.endLine == pos.line) = true := by rfl) :
    DE G (.Call (.Attribute (.Name x p1) "pop" nm) [] [] pos) S d (S.set i (reob s (.lst ds.dropLast))) := fun X ok => by
  obtain ⟨v1, v2, v3, v4⟩ := ok.var hx
  refine PE_weak (pe_bm0 PySem.F.plainAttrs_list PySem.F.slot_list_pop PySem.F.type_list_pop mt_pop (pe_var v1 v2 v3 v4) (ha _) hl) fun σ H Q ⟨B, hh, k⟩ => ?_
  obtain ⟨p, er, xs, ex, rx⟩ := hh.mine h0 m0
  obtain ⟨v, ev, rv⟩ := reps_last rx hd
  have ow : OwnA S σ p := ⟨i, s, h0, m0.ow, er⟩
  refine ⟨.ref p, er, .inl ⟨rfl, xs, .inl (.inl ex)⟩, p, xs, v, rfl, rfl, ex, ev, ?_⟩
  obtain ⟨a1, a2⟩ := hh.updO (u := .lst xs.dropLast) (o' := .lst ds.dropLast) h0 m0 er trivial ⟨_, upd_same, rx.dropLast.upd ow⟩
  exact k v _ a1 a2 ((rv.upd ow).car (Car.imp fun a z => z.imp (ownA_reob h0 m0).mp id))
theorem de_popAt {nm : Pos} (hx : G.tab.lookup x = some i) (h0 : S[i]? = some s) (m0 : Mine s (.lst ds)) (he : DE G e S (.int j) S1) (h1 : S1[i]? = some s1) (m1 : Mine s1 (.lst ds2)) {n : Nat} (hj : ixN ds2.length j = some n) (hd : ds2[n]? = some d)
    (ha : ∀ env, attributeBase (.Name x p1) "pop" env (eval (.Name x p1) env) = eval (.Name x p1) env := by intro _; rfl)
    (hf : ∀ env, ((backTo pos (starEach [e] env)).all (fun x => !x.1) && (backToKw pos (keywordEach [] env)).all (fun x => x.1.isSome) && decide (([e] : List Expr).length + ([] : List Keyword).length + (if ([] : List Keyword).isEmpty then 0 else 1) < 30)) = true := by intro _; rfl)
    (hl : (nm.endLine == pos.line) = true := by rfl) (hs : ∀ env, starEach [e] env = (false, eval e env) :: starEach [] env := by intro _; rfl) (hp : ∀ env, (backTo pos (starEach ([] : List Expr) env)).any (·.1) = false := by intro _; rfl) :
    DE G (.Call (.Attribute (.Name x p1) "pop" nm) [e] [] pos) S d (S1.set i (reob s1 (.lst (ds2.eraseIdx n)))) := fun X ok => by
  obtain ⟨v1, v2, v3, v4⟩ := ok.var hx
  refine PE_len (pe_bm PySem.F.plainAttrs_list PySem.F.slot_list_pop PySem.F.type_list_pop mt_popAt (pe_var v1 v2 v3 v4) (pa_cons (PE_len (he X ok) (t' := fun σ H Q => tE X.K S (.int j) S1 σ H fun v H1 => LenOk X.K H1 → Q v H1) fun σ H Q h => h) pa_nil (hs _)) (ha _) (hf _) hl (hs _) (hp _)) fun σ H Q ⟨B, hh, k⟩ => ?_
  obtain ⟨p, er, xs, ex, rx⟩ := hh.mine h0 m0
  refine ⟨.ref p, er, .inl ⟨rfl, xs, .inl (.inl ex)⟩, B, hh, fun v H1 hh1 r1 q1 lo => ?_⟩
  obtain ⟨p', er', ys, ey, ry⟩ := hh1.mine h1 m1
  rw [er] at er'; cases er'
  have lz := lo p ys (.inl (.inl (.inl ey)))
  have l63 := line63
  rw [← ry.length] at hj
  obtain ⟨z1, z2, z3, z4⟩ := ixN_seq hj
  obtain ⟨v, ev, rv⟩ := ry.get hd
  have ow : OwnA S1 σ p := ⟨i, s1, h1, m1.ow, er⟩
  refine ⟨p, ys, j, n, v, rfl, by rw [rep_int q1], ey, by omega, by omega, z1, ev, fun _ => ?_⟩
  obtain ⟨a1, a2⟩ := hh1.updO (u := .lst (ys.eraseIdx n)) (o' := .lst (ds2.eraseIdx n)) h1 m1 er trivial ⟨_, upd_same, (ry.eraseIdx n).upd ow⟩
  exact k v _ a1 (r1.trans a2) ((rv.upd ow).car (Car.imp fun a z => z.imp (ownA_reob h1 m1).mp id))
theorem de_reverse {nm : Pos} (hx : G.tab.lookup x = some i) (h0 : S[i]? = some s) (m0 : Mine s (.lst ds))
    (ha : ∀ env, attributeBase (.Name x p1) "reverse" env (eval (.Name x p1) env) = eval (.Name x p1) env := by intro _; rfl) (hl : (nm.endLine == pos.line) = true := by rfl) :
    DE G (.Call (.Attribute (.Name x p1) "reverse" nm) [] [] pos) S .none (S.set i (reob s (.lst ds.reverse))) := fun X ok => by
  obtain ⟨v1, v2, v3, v4⟩ := ok.var hx
  refine PE_weak (pe_bm0 PySem.F.plainAttrs_list PySem.F.slot_list_reverse PySem.F.type_list_reverse mt_reverse (pe_var v1 v2 v3 v4) (ha _) hl) fun σ H Q ⟨B, hh, k⟩ => ?_
  obtain ⟨p, er, xs, ex, rx⟩ := hh.mine h0 m0
  have ow : OwnA S σ p := ⟨i, s, h0, m0.ow, er⟩
  refine ⟨.ref p, er, .inl ⟨rfl, xs, .inl (.inl ex)⟩, p, xs, rfl, rfl, ex, ?_⟩
  obtain ⟨a1, a2⟩ := hh.updO (u := .lst xs.reverse) (o' := .lst ds.reverse) h0 m0 er trivial ⟨_, upd_same, rx.rev.upd ow⟩
  exact k .non _ a1 a2 .non
/-- xs[e] = v -/
theorem ds_put {value : Expr} {n : Nat} (hx : G.tab.lookup x = some i) (hv : DE G value S d S1) (h0 : S1[i]? = some s) (m0 : Mine s (.lst ds)) (he : DE G e S1 (.int j) S2) (h1 : S2[i]? = some s1) (m1 : Mine s1 (.lst ds2)) (hj : ixN ds2.length j = some n)
    (hs : ∀ env, swapsWithSole [.Subscript (.Name x p1) e p2] value pos.line env = Pure.pure false := by intro _; rfl) (hw : ∀ env, swappedStores [.Subscript (.Name x p1) e p2] value env = Pure.pure none := by intro _; rfl)
    (ha : ∀ env, (assignEach [.Subscript (.Name x p1) e p2] env).map (·.2) = [assign (.Subscript (.Name x p1) e p2) env] := by intro _; rfl)
    (hg : ∀ env v, assign (.Subscript (.Name x p1) e p2) env v = (do
      let ov ← holding [v] (eval (.Name x p1) env)
      let iv ← holding [v, ov] (eval e env)
      standAt p2
      holding [v, ov, iv] (setItem ov iv v)
      release [v, ov, iv] []) := by intro _ _; rfl) : DS G (.Assign [.Subscript (.Name x p1) e p2] value pos) S (.nx (S2.set i (reob s1 (.lst (ds2.set n d))))) := fun X ok => by
  obtain ⟨v1, v2, v3, v4⟩ := ok.var hx
  refine PS_weak (ps_asg (hv X ok) (pg_sub (pe_var v1 v2 v3 v4) (he X ok) set_list (hg _)) (hs _) (hw _) (ha _)) fun D σ H ⟨B, hh, k⟩ => ⟨B, hh, fun v H1 hh1 r1 q1 => ?_⟩
  obtain ⟨p, er, _⟩ := hh1.mine h0 m0
  refine ⟨.ref p, er, B, hh1, fun w H2 hh2 r2 q2 => ?_⟩
  obtain ⟨p', er', ys, ey, ry⟩ := hh2.mine h1 m1
  rw [er] at er'; cases er'
  have ow : OwnA S2 σ p := ⟨i, s1, h1, m1.ow, er⟩
  refine ⟨p, ys, j, n, rfl, rep_int q2, ey, by rw [ry.length]; exact hj, ?_⟩
  obtain ⟨a1, a2⟩ := hh2.updO (u := .lst (ys.set n v)) (o' := .lst (ds2.set n d)) h1 m1 er trivial ⟨_, upd_same, (ry.set (q1.car r2.car) n).upd ow⟩
  exact k σ _ a1 ((r1.trans r2).trans a2)
end
end Pw
namespace Pw
open PySem PySem.Spec L2

/-! ### dicts as lists of pairs -/
section
variable {κ κ' α β : Type} [DecidableEq κ] [DecidableEq κ']
def getG (d : List (κ × α)) (k : κ) : Option α := (d.find? fun p => decide (p.1 = k)).map (·.2)
def putG (d : List (κ × α)) (k : κ) (v : α) : List (κ × α) :=
  if (d.any fun p => decide (p.1 = k)) = true then d.map (fun p => if p.1 = k then (p.1, v) else p) else d ++ [(k, v)]
theorem getG_nil {k : κ} : getG ([] : List (κ × α)) k = none := rfl
theorem getG_cons {p : κ × α} {r : List (κ × α)} {k : κ} : getG (p :: r) k = if p.1 = k then some p.2 else getG r k := by
  unfold getG
  by_cases h : p.1 = k <;> simp [List.find?_cons, h]
def mapG (g : κ → κ') (f : α → β) (d : List (κ × α)) : List (κ' × β) := d.map fun p => (g p.1, f p.2)
theorem getG_map {g : κ → κ'} {f : α → β} (hg : ∀ a b, g a = g b → a = b) (k : κ) : ∀ d : List (κ × α), getG (mapG g f d) (g k) = (getG d k).map f
  | [] => rfl
  | p :: r => by
    show getG ((g p.1, f p.2) :: mapG g f r) (g k) = _
    rw [getG_cons, getG_cons]
    by_cases h : p.1 = k
    · rw [if_pos h, if_pos (by rw [h])]; rfl
    · rw [if_neg h, if_neg (fun z => h (hg _ _ z)), getG_map hg k r]
theorem any_map {g : κ → κ'} {f : α → β} (hg : ∀ a b, g a = g b → a = b) (k : κ) : ∀ d : List (κ × α), ((mapG g f d).any fun p => decide (p.1 = g k)) = d.any fun p => decide (p.1 = k)
  | [] => rfl
  | p :: r => by
    show (((g p.1, f p.2) :: mapG g f r).any _) = _
    rw [List.any_cons, List.any_cons, any_map hg k r]
    congr 1
    exact decide_eq_decide.mpr ⟨hg _ _, fun z => by rw [z]⟩
theorem putG_map {g : κ → κ'} {f : α → β} (hg : ∀ a b, g a = g b → a = b) (d : List (κ × α)) (k : κ) (v : α) : putG (mapG g f d) (g k) (f v) = mapG g f (putG d k v) := by
  unfold putG
  rw [any_map hg k d]
  split
  · unfold mapG
    rw [List.map_map, List.map_map]
    refine List.map_congr_left fun p _ => ?_
    show (if g p.1 = g k then (g p.1, f v) else (g p.1, f p.2)) = _
    by_cases h : p.1 = k
    · rw [if_pos (by rw [h])]; simp [h]
    · rw [if_neg (fun z => h (hg _ _ z))]; simp [h]
  · unfold mapG
    rw [List.map_append]
    rfl
theorem mapG_len {g : κ → κ'} {f : α → β} {d : List (κ × α)} : (mapG g f d).length = d.length := by unfold mapG; rw [List.length_map]
end
section
variable {κ : Type} [DecidableEq κ] {K : PySem.W.Frag} {A : AP} {H : Hp}
theorem repK_nil : RepK K A H ([] : List (κ × V)) [] := ⟨rfl, .nil⟩
theorem repK_cons {p : κ × V} {q : κ × PyData} {kvs : List (κ × V)} {ds : List (κ × PyData)} : RepK K A H (p :: kvs) (q :: ds) ↔ p.1 = q.1 ∧ Rep K A H p.2 q.2 ∧ RepK K A H kvs ds := by
  constructor
  · rintro ⟨h1, h2⟩
    rw [List.map_cons, List.map_cons] at h1 h2
    injection h1 with e1 e2
    cases h2 with
    | cons r t => exact ⟨e1, r, e2, t⟩
  · rintro ⟨h1, h2, h3, h4⟩
    exact ⟨by rw [List.map_cons, List.map_cons, h1, h3], .cons h2 h4⟩
theorem repK_nc {q : κ × PyData} {ds : List (κ × PyData)} : ¬ RepK K A H ([] : List (κ × V)) (q :: ds) := fun h => by
  have := h.1
  rw [List.map_cons, List.map_nil] at this
  cases this
theorem repK_cn {q : κ × V} {ds : List (κ × V)} : ¬ RepK K A H (q :: ds) [] := fun h => by
  have := h.1
  rw [List.map_cons, List.map_nil] at this
  cases this
theorem repK_get (k : κ) : ∀ {kvs : List (κ × V)} {ds : List (κ × PyData)}, RepK K A H kvs ds → (getG ds k = none ∧ valV kvs k = none) ∨ ∃ d v, getG ds k = some d ∧ valV kvs k = some v ∧ Rep K A H v d
  | [], [], _ => .inl ⟨rfl, rfl⟩
  | [], _ :: _, h => (repK_nc h).elim
  | _ :: _, [], h => (repK_cn h).elim
  | p :: kvs, q :: ds, h => by
    obtain ⟨e, r, t⟩ := repK_cons.mp h
    rw [getG_cons]
    by_cases hk : q.1 = k
    · rw [if_pos hk]
      exact .inr ⟨_, _, rfl, valV_pos (e.trans hk), r⟩
    · rw [if_neg hk, valV_neg (by rw [e]; exact hk)]
      exact repK_get k t
theorem repK_len : ∀ {kvs : List (κ × V)} {ds : List (κ × PyData)}, RepK K A H kvs ds → kvs.length = ds.length := fun {kvs ds} h => by
  have := congrArg List.length h.1
  rw [List.length_map, List.length_map] at this
  exact this
theorem repK_any (k : κ) : ∀ {kvs : List (κ × V)} {ds : List (κ × PyData)}, RepK K A H kvs ds → (kvs.any fun p => decide (p.1 = k)) = ds.any fun p => decide (p.1 = k)
  | [], [], _ => rfl
  | [], _ :: _, h => (repK_nc h).elim
  | _ :: _, [], h => (repK_cn h).elim
  | p :: kvs, q :: ds, h => by
    obtain ⟨e, r, t⟩ := repK_cons.mp h
    rw [List.any_cons, List.any_cons, repK_any k t, e]
theorem repK_upd {k : κ} {v : V} {d : PyData} (r : Rep K A H v d) : ∀ {kvs : List (κ × V)} {ds : List (κ × PyData)}, RepK K A H kvs ds → RepK K A H (kvs.map fun kv => if kv.1 = k then (kv.1, v) else kv) (ds.map fun p => if p.1 = k then (p.1, d) else p)
  | [], [], _ => repK_nil
  | [], _ :: _, h => (repK_nc h).elim
  | _ :: _, [], h => (repK_cn h).elim
  | p :: kvs, q :: ds, h => by
    obtain ⟨e, r0, t⟩ := repK_cons.mp h
    rw [List.map_cons, List.map_cons]
    refine repK_cons.mpr ?_
    by_cases hk : q.1 = k
    · rw [if_pos hk, if_pos (e.trans hk)]
      exact ⟨e, r, repK_upd r t⟩
    · rw [if_neg hk, if_neg (by rw [e]; exact hk)]
      exact ⟨e, r0, repK_upd r t⟩
theorem repK_put {kvs : List (κ × V)} {ds : List (κ × PyData)} {k : κ} {v : V} {d : PyData} (h : RepK K A H kvs ds) (r : Rep K A H v d) : RepK K A H (putK kvs k v) (putG ds k d) := by
  unfold putK putG
  rw [repK_any k h]
  split
  · exact repK_upd r h
  · refine ⟨by rw [List.map_append, List.map_append, h.1]; rfl, ?_⟩
    rw [List.map_append, List.map_append]
    exact h.2.append (.one r)
def kD : Key → PyData
  | .inl i => .int i
  | .inr x => .str x
theorem rep_key {k : Key} {v : V} (h : Rep K A H v (kD k)) : v = kV k := by
  cases k with
  | inl i => exact rep_int h
  | inr x => exact rep_str h
theorem key_rep {k : Key} : Rep K A H (kV k) (kD k) := by
  cases k with
  | inl i => exact .int i
  | inr x => exact .str x
theorem RepK.car {A' : AP} {H' : Hp} {kvs : List (κ × V)} {ds : List (κ × PyData)} (h : RepK K A H kvs ds) (c : Car A A' H H') : RepK K A' H' kvs ds := ⟨h.1, h.2.car c⟩
end

section
variable {α : Type} {G : Cxt} {S S1 S2 S3 : List Sl} {a b c e f : Expr} {es : List Expr} {d d1 d2 : PyData} {ds ds2 : List (Key × PyData)} {o o' o1 o2 : Ob} {s s1 : Sl} {pos p1 p2 : Pos} {K : PySem.W.Frag} {A B : AP} {σ : L2.St} {H H' : Hp} {p : Addr} {vs : List V} {i : Nat} {j : Int} {x : Str} {u : HO} {k : Key}

/-! ### dicts -/
theorem units1 {X : Cx} (ok : G.Ok X) : X.A.units + 1 < cLine := by have := ok.un; omega
theorem df_dnew : DF G (.Dict [] [] pos) S (.dk []) S := fun X ok =>
  PE_weak pe_dnewK fun σ H Q ⟨B, hh, kk⟩ q hq => kk q _ hq (hh.free hq) (hh.newB hq trivial) (Rel.same (upd_keep hq)) ⟨[], upd_same, repK_nil⟩
theorem df_dnewT : DF G (.Dict [] [] pos) S (.dt []) S := fun X ok =>
  PE_weak pe_dnewT fun σ H Q ⟨B, hh, kk⟩ q hq => kk q _ hq (hh.free hq) (hh.newB hq trivial) (Rel.same (upd_keep hq)) ⟨[], upd_same, repK_nil⟩
theorem rd_dget {v : V} (h : ObRd K (OwnA S σ) (Av S σ B) H p (.dk ds)) (q : Rep K A H v (kD k)) : (getG ds k = none ∧ DGet H p v none) ∨ ∃ d w, getG ds k = some d ∧ DGet H p v (some w) ∧ Rep K (Av S σ B) H w d := by
  obtain ⟨kvs, ⟨_, hr⟩, rk⟩ := h
  rcases repK_get k rk with ⟨e1, e2⟩ | ⟨d, w, e1, e2, r⟩
  · exact .inl ⟨e1, .inl ⟨kvs, k, hr, rep_key q, e2.symm⟩⟩
  · exact .inr ⟨d, w, e1, .inl ⟨kvs, k, hr, rep_key q, e2.symm⟩, r⟩
theorem de_dget (ho : DB G a S (.dk ds) S1) (hi : DE G e S1 (kD k) S2) (hd : getG ds k = some d) (hs : NoSl e := by intro _ _; rfl) : DE G (.Subscript a e pos) S d S2 := fun X ok =>
  PE_weak (pe_dget (units1 ok) (ho X ok) (hi X ok) hs) fun σ H Q ⟨B, hh, kk⟩ => ⟨B, hh, fun p H1 h1 r1 q1 => ⟨B, h1, fun v H2 h2 r2 q2 => by
    rcases rd_dget (q1.car r2.car r2.cdO) q2 with ⟨e1, _⟩ | ⟨d', w, e1, g, rw'⟩
    · rw [hd] at e1; cases e1
    · rw [hd] at e1; cases e1
      exact ⟨p, w, rfl, g, kk w H2 h2 (r1.trans r2) rw'⟩⟩⟩
theorem dget_some {v : V} (h : ObRd K (OwnA S σ) (Av S σ B) H p (.dk ds)) (q : Rep K A H v (kD k)) : ∃ o, DGet H p v o ∧ o.isSome = (getG ds k).isSome := by
  rcases rd_dget h q with ⟨e1, g⟩ | ⟨d', w, e1, g, _⟩
  · exact ⟨_, g, by rw [e1]; rfl⟩
  · exact ⟨_, g, by rw [e1]; rfl⟩
theorem dt_din (hi : DE G e S (kD k) S1) (ho : DB G a S1 (.dk ds) S2) (hm : behindInMarks .In a = false := by rfl) : DT G (.Compare e [.In] [a] pos) S (getG ds k).isSome S2 := fun X ok =>
  PT_weak (pt_cmp (pc_din (units1 ok) (hi X ok) (ho X ok)) hm) fun σ H Q ⟨B, hh, kk⟩ => ⟨B, hh, fun v H1 h1 r1 q1 => ⟨B, h1, fun p H2 h2 r2 q2 => by
    obtain ⟨o, g, eo⟩ := dget_some q2 (q1.car r2.car)
    exact ⟨p, o, rfl, g, _, rfl, by rw [eo]; exact kk H2 h2 (r1.trans r2)⟩⟩⟩
theorem de_din (hi : DE G e S (kD k) S1) (ho : DB G a S1 (.dk ds) S2) (hm : behindInMarks .In a = false := by rfl) : DE G (.Compare e [.In] [a] pos) S (.bool (getG ds k).isSome) S2 := fun X ok =>
  PE_weak (pe_cmp (pc_din (units1 ok) (hi X ok) (ho X ok)) hm) fun σ H Q ⟨B, hh, kk⟩ => ⟨B, hh, fun v H1 h1 r1 q1 => ⟨B, h1, fun p H2 h2 r2 q2 => by
    obtain ⟨o, g, eo⟩ := dget_some q2 (q1.car r2.car)
    exact ⟨p, o, rfl, g, by rw [eo]; exact kk _ H2 h2 (r1.trans r2) (.bl _)⟩⟩⟩
theorem dt_dnin (hi : DE G e S (kD k) S1) (ho : DB G a S1 (.dk ds) S2) (hm : behindInMarks .NotIn a = false := by rfl) : DT G (.Compare e [.NotIn] [a] pos) S (!(getG ds k).isSome) S2 := fun X ok =>
  PT_weak (pt_cmp (pc_dnotin (units1 ok) (hi X ok) (ho X ok)) hm) fun σ H Q ⟨B, hh, kk⟩ => ⟨B, hh, fun v H1 h1 r1 q1 => ⟨B, h1, fun p H2 h2 r2 q2 => by
    obtain ⟨o, g, eo⟩ := dget_some q2 (q1.car r2.car)
    exact ⟨p, o, rfl, g, _, rfl, by rw [eo]; exact kk H2 h2 (r1.trans r2)⟩⟩⟩
theorem de_dnin (hi : DE G e S (kD k) S1) (ho : DB G a S1 (.dk ds) S2) (hm : behindInMarks .NotIn a = false := by rfl) : DE G (.Compare e [.NotIn] [a] pos) S (.bool (!(getG ds k).isSome)) S2 := fun X ok =>
  PE_weak (pe_cmp (pc_dnotin (units1 ok) (hi X ok) (ho X ok)) hm) fun σ H Q ⟨B, hh, kk⟩ => ⟨B, hh, fun v H1 h1 r1 q1 => ⟨B, h1, fun p H2 h2 r2 q2 => by
    obtain ⟨o, g, eo⟩ := dget_some q2 (q1.car r2.car)
    exact ⟨p, o, rfl, g, by rw [eo]; exact kk _ H2 h2 (r1.trans r2) (.bl _)⟩⟩⟩
theorem rd_isD (h : ObRd K (OwnA S σ) (Av S σ B) H p (.dk ds)) : IsD H p := by
  obtain ⟨kvs, ⟨_, hr⟩, _⟩ := h
  exact .inl ⟨kvs, hr⟩
/-- d.get(k), d.get(k, x) -/
theorem de_get1 {nm : Pos} (ho : DB G a S (.dk ds) S1) (hi : DE G e S1 (kD k) S2) (hd : d = (getG ds k).getD .none) (m : ∀ X, M1 X a "get" nm e pos := by intro _; exact ⟨rfl, rfl, rfl, rfl⟩) : DE G (.Call (.Attribute a "get" nm) [e] [] pos) S d S2 := fun X ok =>
  PE_weak (pe_dget1 (units1 ok) (ho X ok) (hi X ok) (m X)) fun σ H Q ⟨B, hh, kk⟩ => ⟨B, hh, fun p H1 h1 r1 q1 => ⟨p, rfl, rd_isD q1, B, h1, fun v H2 h2 r2 q2 => by
    rcases rd_dget (q1.car r2.car r2.cdO) q2 with ⟨e1, g⟩ | ⟨d', w, e1, g, rw'⟩
    · exact ⟨_, g, kk _ H2 h2 (r1.trans r2) (by rw [hd, e1]; exact .non)⟩
    · exact ⟨_, g, kk _ H2 h2 (r1.trans r2) (by rw [hd, e1]; exact rw')⟩⟩⟩
theorem de_get2 {nm : Pos} (ho : DB G a S (.dk ds) S1) (hi : DE G e S1 (kD k) S2) (hf : DE G f S2 d1 S3) (hd : d = (getG ds k).getD d1) (m : ∀ X, M2 X a "get" nm e f pos := by intro _; exact ⟨rfl, rfl, rfl, rfl⟩) : DE G (.Call (.Attribute a "get" nm) [e, f] [] pos) S d S3 := fun X ok =>
  PE_weak (pe_dget2 (units1 ok) (ho X ok) (hi X ok) (hf X ok) (m X)) fun σ H Q ⟨B, hh, kk⟩ => ⟨B, hh, fun p H1 h1 r1 q1 => ⟨p, rfl, rd_isD q1, B, h1, fun v H2 h2 r2 q2 => ⟨B, h2, fun w H3 h3 r3 q3 => by
    have r23 := r2.trans r3
    rcases rd_dget (q1.car r23.car r23.cdO) (q2.car r3.car) with ⟨e1, g⟩ | ⟨d', w, e1, g, rw'⟩
    · exact ⟨_, g, kk _ H3 h3 ((r1.trans r2).trans r3) (by rw [hd, e1]; exact q3)⟩
    · exact ⟨_, g, kk _ H3 h3 ((r1.trans r2).trans r3) (by rw [hd, e1]; exact rw')⟩⟩⟩⟩
/-- x[e] = value -/
theorem ds_dput {value : Expr} (hx : G.tab.lookup x = some i) (hv : DE G value S d S1) (h0 : S1[i]? = some s) (m0 : Mine s (.dk ds)) (he : DE G e S1 (kD k) S2) (h1 : S2[i]? = some s1) (m1 : Mine s1 (.dk ds2)) (hz : ds2.length < sizeLine)
    (hs : ∀ env, swapsWith value (some (.Subscript (.Name x p1) e p2)) pos.line env = Pure.pure false := by intro _; rfl) : DS G (.Assign [.Subscript (.Name x p1) e p2] value pos) S (.nx (S2.set i (reob s1 (.dk (putG ds2 k d))))) := fun X ok => by
  obtain ⟨v1, v2, v3, v4⟩ := ok.var hx
  refine PS_weak (ps_dput (units1 ok) (pe_var v1 v2 v3 v4) (he X ok) (hv X ok) (hs _)) fun D σ H ⟨B, hh, kk⟩ => ⟨B, hh, fun v H1 hh1 r1 q1 => ?_⟩
  obtain ⟨p, er, _⟩ := hh1.mine h0 m0
  refine ⟨.ref p, er, B, hh1, fun w H2 hh2 r2 q2 => ?_⟩
  obtain ⟨p', er', kvs, ey, ry⟩ := hh2.mine h1 m1
  rw [er] at er'; cases er'
  have ow : OwnA S2 σ p := ⟨i, s1, h1, m1.ow, er⟩
  refine ⟨p, _, rfl, .inl ⟨kvs, k, ey, rep_key q2, by rw [repK_len ry]; exact hz, rfl⟩, ?_⟩
  obtain ⟨a1, a2⟩ := hh2.updO (u := .dK (putK kvs k v)) (o' := .dk (putG ds2 k d)) h1 m1 er trivial ⟨_, upd_same, (repK_put ry (q1.car r2.car)).car (Car.upd ow)⟩
  exact kk σ _ a1 ((r1.trans r2).trans a2)
theorem cr_lenRd {X : Cx} : CallR X (.builtin "len") (fun xs H Q => ∃ a kvs, xs = [V.ref a] ∧ Rd H a (.dK kvs) ∧ Q (.int kvs.length) H) := fun pins s σ H xs us Q I r ⟨a, kvs, e, ha, q⟩ => by
  subst e
  obtain ⟨u, rfl, ru⟩ := vals1 r
  cases ru
  exact d_len I ha fun t s' I' => ⟨.int kvs.length, H, I', ⟨t, rfl⟩, q⟩
theorem de_lenD (hx : G.blt.elem ("len" : Str) = true) (h : DB G e S (.dk ds) S1) (hs : ∀ env, starEach [e] env = (false, eval e env) :: starEach [] env := by intro _; rfl) (hp : ∀ env, (backTo pos (starEach ([] : List Expr) env)).any (·.1) = false := by intro _; rfl) : DE G (.Call (.Name "len" p1) [e] [] pos) S (.int ds.length) S1 := fun X ok => by
  obtain ⟨hg, hm, _, _⟩ := ok.gl (elem_mem hx)
  refine PE_weak (pe_callB cr_lenRd hg hm PySem.boot_len (pa_b (h X ok) (hs _)) (by decide) (by decide) (hs _) (hp _)) fun σ H Q ⟨B, hh, kk⟩ => ⟨B, hh, fun p H1 h1 r1 ⟨kvs, ⟨_, la⟩, rs⟩ => ?_⟩
  refine ⟨p, kvs, rfl, la, ?_⟩
  rw [repK_len rs]
  exact kk _ H1 h1 r1 (.int _)
end
end Pw
namespace Pw
open PySem PySem.Spec L2

section
variable {α : Type} {G : Cxt} {S S1 S2 S3 : List Sl} {a b c e f tg : Expr} {es : List Expr} {d d1 d2 : PyData} {ds ds2 : List (Key × PyData)} {o o' o1 o2 : Ob} {s s1 : Sl} {pos p1 p2 : Pos} {K : PySem.W.Frag} {A B : AP} {σ : L2.St} {H H' : Hp} {p : Addr} {vs : List V} {i : Nat} {j : Int} {x : Str} {u : HO} {k : Key}

/-! ### a dict that is walked -/
inductive Lkb : Sl → Ob → Prop
  | own {ds : List (Key × PyData)} : Lkb (.own (.dk ds)) (.dk ds)
  | io {ds : List (Key × PyData)} : Lkb (.io (.dk ds)) (.dk ds)
  | bor {ds : List (Key × PyData)} : Lkb (.bor (.dk ds)) (.dk ds)
def Bm (B : AP) (p : Addr) : AP := fun a => B a ∧ a ≠ p
theorem rd_frz {od : Obj} {w : HO} (h : Rd H p w) (e : H p = some (.frz od u)) (hu : ∀ o v, u ≠ .frz o v) (hw : ∀ o v, w ≠ .frz o v) : w = u := by
  rcases h with h | ⟨o, h⟩
  · rw [e] at h
    cases h
    exact absurd rfl (hw _ _)
  · rw [e] at h
    cases h
    rfl
theorem ownA_lk (e : S[i]? = some s) (m : Lkb s o) {a : Addr} (h : OwnA (S.set i (.lkd o)) σ a) : OwnA S σ a := by
  obtain ⟨j, t, e1, ht, er⟩ := h
  rcases get_set e1 with ⟨rfl, rfl, _⟩ | ⟨ne, e1⟩
  · cases ht
  · exact ⟨j, t, e1, ht, er⟩
/-- the dict is locked, or it is locked already -/
theorem Holds.lock (h : Holds K B S σ H) (e : S[i]? = some s) (m : Lkb s (.dk ds)) : ∃ p, σ[i]? = some (some (V.ref p)) ∧
    ((∃ kvs, H p = some (.dK kvs) ∧ ∀ od, Holds K (Bm B p) (S.set i (.lkd (.dk ds))) σ (L2.upd H p (.frz od (.dK kvs)))) ∨ (∃ od kvs, H p = some (.frz od (.dK kvs)) ∧ s = .bor (.dk ds) ∧ Holds K B (S.set i (.lkd (.dk ds))) σ H)) := by
  have hi : i < S.length := (List.getElem?_eq_some_iff.mp e).1
  -- what stands there
  obtain ⟨p, er, kvs, hr, rk⟩ : ∃ p, σ[i]? = some (some (V.ref p)) ∧ ∃ kvs, (H p = some (.dK kvs) ∨ (¬ OwnA S σ p ∧ ∃ od, H p = some (.frz od (.dK kvs)) ∧ s = .bor (.dk ds))) ∧ RepK K (Av S σ B) H kvs ds := by
    have q := h.sl i s e
    cases m with
    | own => obtain ⟨p, er, kvs, e1, rk⟩ := q; exact ⟨p, er, kvs, .inl e1, rk⟩
    | io => obtain ⟨p, er, kvs, e1, rk⟩ := q; exact ⟨p, er, kvs, .inl e1, rk⟩
    | bor =>
      obtain ⟨p, er, kvs, ⟨n, e1⟩, rk⟩ := q
      rcases e1 with e1 | ⟨od, e1⟩
      · exact ⟨p, er, kvs, .inl e1, rk⟩
      · exact ⟨p, er, kvs, .inr ⟨n, od, e1, rfl⟩, rk⟩
  have sub : ∀ a, OwnA (S.set i (.lkd (.dk ds))) σ a → OwnA S σ a := fun a => ownA_lk e m
  -- the locked one is no own one
  have np : ¬ OwnA (S.set i (.lkd (.dk ds))) σ p := by
    rintro ⟨j, t, e1, ht, er1⟩
    rcases get_set e1 with ⟨rfl, rfl, _⟩ | ⟨ne, e1⟩
    · cases ht
    · cases m with
      | own => exact ne (h.inj i j _ _ p e e1 rfl ht er er1)
      | io => exact ne (h.inj i j _ _ p e e1 rfl ht er er1)
      | bor =>
        obtain ⟨p', er', kvs', ⟨n, _⟩, _⟩ := h.sl i _ e
        rw [er] at er'; cases er'
        exact n ⟨j, t, e1, ht, er1⟩
  have inj' : ∀ (j k : Nat) (t w : Sl) (a : Addr), (S.set i (.lkd (.dk ds)))[j]? = some t → (S.set i (.lkd (.dk ds)))[k]? = some w → own? t = true → own? w = true → σ[j]? = some (some (V.ref a)) → σ[k]? = some (some (V.ref a)) → j = k := fun j k t w a e1 e2 o1 o2 r1 r2 => by
    rcases get_set e1 with ⟨rfl, rfl, _⟩ | ⟨n1, e1⟩
    · cases o1
    · rcases get_set e2 with ⟨rfl, rfl, _⟩ | ⟨n2, e2⟩
      · cases o2
      · exact h.inj j k t w a e1 e2 o1 o2 r1 r2
  refine ⟨p, er, ?_⟩
  rcases hr with hr | ⟨n, od, hr, es⟩
  · refine .inl ⟨kvs, hr, fun od => ?_⟩
    have kp : ∀ a v, a ≠ p → H a = some v → L2.upd H p (.frz od (.dK kvs)) a = some v := fun a v n z => by rw [upd_ne n]; exact z
    have nl : ∀ a xs, Rd H a (.lst xs) → a ≠ p := fun a xs z w => by subst w; rcases z with z | ⟨o, z⟩ <;> (rw [hr] at z; cases z)
    have nt : ∀ a xs, XT H a xs → a ≠ p := fun a xs z w => by subst w; obtain ⟨ob, _, _, z⟩ := z; rw [hr] at z; cases z
    have subA : ∀ a, Av (S.set i (.lkd (.dk ds))) σ (Bm B p) a → Av S σ B a := fun a z => z.imp (sub a) (fun z => z.1)
    have c : Car (Av S σ B) (Av (S.set i (.lkd (.dk ds))) σ (Bm B p)) H (L2.upd H p (.frz od (.dK kvs))) := ⟨fun a xs n z => ⟨fun w => n (subA a w), rd_keep (fun o e => kp a o (nl a xs z) e) z⟩, fun a xs n z => ⟨fun w => n (subA a w), xt_keep (fun o e => kp a o (nt a xs z) e) z⟩⟩
    refine ⟨by rw [List.length_set]; exact h.len, fun j t e1 => ?_, inj', fun a z => ?_⟩
    · rcases get_set e1 with ⟨rfl, rfl, _⟩ | ⟨ne, e1⟩
      · exact ⟨p, er, kvs, od, np, upd_same, rk.car c⟩
      · have q := h.sl j t e1
        cases t with
        | un => trivial
        | dat d => obtain ⟨v, e, r⟩ := q; exact ⟨v, e, r.car c⟩
        | own o =>
          obtain ⟨a, ea, r⟩ := q
          exact ⟨a, ea, r.car c fun v z => kp a v (fun w => np ⟨j, _, by rw [List.getElem?_set_ne ne]; exact e1, rfl, by rw [← w]; exact ea⟩) z⟩
        | io o =>
          obtain ⟨a, ea, r⟩ := q
          exact ⟨a, ea, r.car c fun v z => kp a v (fun w => np ⟨j, _, by rw [List.getElem?_set_ne ne]; exact e1, rfl, by rw [← w]; exact ea⟩) z⟩
        | bor o =>
          obtain ⟨a, ea, r⟩ := q
          refine ⟨a, ea, r.car c fun a v n z => ?_⟩
          refine ⟨fun w => n (sub a w), ?_⟩
          by_cases w : a = p
          · subst w
            rcases z with z | ⟨o, z⟩
            · rw [hr] at z; cases z
              exact .inr ⟨od, upd_same⟩
            · rw [hr] at z; cases z
          · exact rd_keep (fun o e => kp a o w e) z
        | lkd o =>
          obtain ⟨a, ea, r⟩ := q
          refine ⟨a, ea, ?_⟩
          have na : a ≠ p := fun w => by
            subst w
            cases o with
            | lst _ => exact r.elim
            | dk _ => obtain ⟨_, _, _, z, _⟩ := r; rw [hr] at z; cases z
            | dt _ => obtain ⟨_, _, _, z, _⟩ := r; rw [hr] at z; cases z
          cases o with
          | lst _ => exact r.elim
          | dk _ => obtain ⟨xs, ob, n, z, k1, r⟩ := r; exact ⟨xs, ob, fun w => n (sub a w), kp a _ na z, k1, r.car c⟩
          | dt _ => obtain ⟨xs, ob, n, z, k1, r⟩ := r; exact ⟨xs, ob, fun w => n (sub a w), kp a _ na z, k1, r.car c⟩
    · show Mut (L2.upd H p _ a)
      rw [upd_ne z.2]
      exact h.bm a z.1
  · refine .inr ⟨od, kvs, hr, es, by rw [List.length_set]; exact h.len, fun j t e1 => ?_, inj', h.bm⟩
    have subA : ∀ a, Av (S.set i (.lkd (.dk ds))) σ B a → Av S σ B a := fun a z => z.imp (sub a) id
    rcases get_set e1 with ⟨rfl, rfl, _⟩ | ⟨ne, e1⟩
    · exact ⟨p, er, kvs, od, np, hr, rk.car (Car.imp subA)⟩
    · exact (h.sl j t e1).car (Car.imp subA) (fun a v n z => ⟨fun w => n (sub a w), z⟩) fun _ _ _ _ z => z
/-- .. and freed -/
theorem Holds.unlock {B' : AP} {σ' : L2.St} {kvs : List (Key × V)} {od : Obj} (h : Holds K B S σ H) (e : S[i]? = some s) (m : Lkb s (.dk ds)) (er : σ[i]? = some (some (V.ref p))) (hr : H p = some (.dK kvs)) (hB : ∀ a, Bm B p a → B' a)
    (h1 : Holds K B' S1 σ' H') (r : Rel (S.set i (.lkd (.dk ds))) σ (L2.upd H p (.frz od (.dK kvs))) S1 σ' H') (e1 : S1[i]? = some (.lkd (.dk ds))) :
    H' p = some (.frz od (.dK kvs)) ∧ Holds K (fun a => B' a ∨ B a) (S1.set i s) σ' (L2.upd H' p (.dK kvs)) ∧ Rel S σ H (S1.set i s) σ' (L2.upd H' p (.dK kvs)) ∧ Car (Av S1 σ' B') (Av (S1.set i s) σ' fun a => B' a ∨ B a) H' (L2.upd H' p (.dK kvs)) ∧ ∀ a, OwnA (S1.set i s) σ' a → OwnA S1 σ' a ∨ a = p := by
  have hi : i < S.length := (List.getElem?_eq_some_iff.mp e).1
  have hi1 : i < S1.length := (List.getElem?_eq_some_iff.mp e1).1
  have eσ : σ'[i]? = some (some (V.ref p)) := by
    have := (r.fix i _ e1 rfl).2
    rw [this, er]
  obtain ⟨p', er', kvs', od', np, hp', rk⟩ := h1.sl i _ e1
  rw [eσ] at er'; cases er'
  have np0 : ¬ OwnA (S.set i (.lkd (.dk ds))) σ p := by
    rintro ⟨j, t, e2, ht, er2⟩
    rcases get_set e2 with ⟨rfl, rfl, _⟩ | ⟨ne, e2⟩
    · cases ht
    · cases m with
      | own => exact ne (h.inj i j _ _ p e e2 rfl ht er er2)
      | io => exact ne (h.inj i j _ _ p e e2 rfl ht er er2)
      | bor =>
        obtain ⟨p', er', kvs', ⟨n, _⟩, _⟩ := h.sl i _ e
        rw [er] at er'; cases er'
        exact n ⟨j, t, e2, ht, er2⟩
  have hfz : H' p = some (.frz od (.dK kvs)) := r.keep p _ upd_same np0
  rw [hfz] at hp'
  cases hp'
  have sup : ∀ a, OwnA (S1.set i s) σ' a → OwnA S1 σ' a ∨ a = p := fun a ⟨j, t, e2, ht, er2⟩ => by
    rcases get_set e2 with ⟨rfl, rfl, _⟩ | ⟨ne, e2⟩
    · rw [eσ] at er2; cases er2; exact .inr rfl
    · exact .inl ⟨j, t, e2, ht, er2⟩
  have sub : ∀ a, OwnA S1 σ' a → OwnA (S1.set i s) σ' a := fun a ⟨j, t, e2, ht, er2⟩ => ⟨j, t, by
    have ne : i ≠ j := fun z => by subst z; rw [e1] at e2; cases e2; cases ht
    rw [List.getElem?_set_ne ne]; exact e2, ht, er2⟩
  have kp : ∀ a v, a ≠ p → H' a = some v → L2.upd H' p (.dK kvs) a = some v := fun a v n z => by rw [upd_ne n]; exact z
  have nl : ∀ a xs, Rd H' a (.lst xs) → a ≠ p := fun a xs z w => by subst w; rcases z with z | ⟨o, z⟩ <;> (rw [hfz] at z; cases z)
  have nt : ∀ a xs, XT H' a xs → a ≠ p := fun a xs z w => by subst w; obtain ⟨ob, _, _, z⟩ := z; rw [hfz] at z; cases z
  have Bne : ∀ a, B a → a ≠ p → B' a := fun a z n => hB a ⟨z, n⟩
  have noA : ∀ a, a ≠ p → ¬ Av S1 σ' B' a → ¬ Av (S1.set i s) σ' (fun a => B' a ∨ B a) a := fun a n w z => by
    rcases z with z | z | z
    · rcases sup a z with z | z
      · exact w (.inl z)
      · exact n z
    · exact w (.inr z)
    · exact w (.inr (Bne a z n))
  have c : Car (Av S1 σ' B') (Av (S1.set i s) σ' fun a => B' a ∨ B a) H' (L2.upd H' p (.dK kvs)) := ⟨fun a xs n z => ⟨noA a (nl a xs z) n, rd_keep (fun o e => kp a o (nl a xs z) e) z⟩, fun a xs n z => ⟨noA a (nt a xs z) n, xt_keep (fun o e => kp a o (nt a xs z) e) z⟩⟩
  have fixB : ∀ (j : Nat) (t : Sl), i ≠ j → S1[j]? = some t → lent? t = true → S[j]? = some t ∧ σ'[j]? = σ[j]? := fun j t ne e2 hl => by
    obtain ⟨f1, f2⟩ := r.fix j t e2 hl
    rw [List.getElem?_set_ne ne] at f1
    exact ⟨f1, f2⟩
  have ownP : own? s = true → OwnA S σ p := fun w => ⟨i, s, e, w, er⟩
  have supB : own? s = false → ∀ a, OwnA (S1.set i s) σ' a → OwnA S1 σ' a := fun w a ⟨j, t, e2, ht, er2⟩ => by
    rcases get_set e2 with ⟨rfl, rfl, _⟩ | ⟨ne, e2⟩
    · rw [w] at ht; cases ht
    · exact ⟨j, t, e2, ht, er2⟩
  refine ⟨hfz, ⟨by rw [List.length_set]; exact h1.len, fun j t e2 => ?_, fun j k t w a e2 e3 o1 o2 r1 r2 => ?_, fun a z => ?_⟩, ⟨fun a v z n => ?_, fun a z => ?_, fun j o e2 => ?_, by rw [List.length_set, r.len, List.length_set], fun j o e2 => ?_, fun j t e2 hl => ?_, fun a v z => ?_⟩, c, sup⟩
  · rcases get_set e2 with ⟨rfl, rfl, _⟩ | ⟨ne, e2⟩
    · cases m with
      | own => exact ⟨p, eσ, kvs, upd_same, rk.car c⟩
      | io => exact ⟨p, eσ, kvs, upd_same, rk.car c⟩
      | bor => exact ⟨p, eσ, kvs, ⟨fun w => np (supB rfl p w), .inl upd_same⟩, rk.car c⟩
    · have q := h1.sl j t e2
      cases t with
      | un => trivial
      | dat d => obtain ⟨v, e, r⟩ := q; exact ⟨v, e, r.car c⟩
      | own o =>
        obtain ⟨a, ea, r⟩ := q
        exact ⟨a, ea, r.car c fun v z => kp a v (fun w => np ⟨j, _, e2, rfl, by rw [← w]; exact ea⟩) z⟩
      | io o =>
        obtain ⟨a, ea, r⟩ := q
        exact ⟨a, ea, r.car c fun v z => kp a v (fun w => np ⟨j, _, e2, rfl, by rw [← w]; exact ea⟩) z⟩
      | bor o =>
        obtain ⟨f1, f2⟩ := fixB j _ ne e2 rfl
        obtain ⟨a0, ea0, q0⟩ := h.sl j _ f1
        obtain ⟨a, ea, q1⟩ := q
        have : a0 = a := by rw [f2, ea0] at ea; cases ea; rfl
        subst this
        refine ⟨a0, ea, ?_⟩
        cases o with
        | lst _ =>
          obtain ⟨xs, l, r⟩ := q1
          refine ⟨xs, ?_, r.car c⟩
          rcases l with ⟨n, l⟩ | l
          · exact .inl ⟨fun w => (sup a0 w).elim n (nl a0 xs l), rd_keep (fun o e => kp a0 o (nl a0 xs l) e) l⟩
          · exact .inr l
        | dk _ =>
          obtain ⟨_, ⟨n0, _⟩, _⟩ := q0
          obtain ⟨xs, ⟨n, l⟩, r⟩ := q1
          refine ⟨xs, ?_, r.car c⟩
          by_cases w : a0 = p
          · subst w
            have hs : own? s = false := by
              cases hq : own? s with
              | false => rfl
              | true => exact absurd (ownP hq) n0
            have ew := rd_frz l hfz (fun _ _ z => by cases z) (fun _ _ z => by cases z)
            exact ⟨fun w => n (supB hs a0 w), .inl (by rw [upd_same, ew])⟩
          · exact ⟨fun z => (sup a0 z).elim n w, rd_keep (fun o e => kp a0 o w e) l⟩
        | dt _ =>
          obtain ⟨xs, ⟨n, l⟩, r⟩ := q1
          refine ⟨xs, ?_, r.car c⟩
          have w : a0 ≠ p := fun w => by
            subst w
            have ew := rd_frz l hfz (fun _ _ z => by cases z) (fun _ _ z => by cases z)
            cases ew
          exact ⟨fun z => (sup a0 z).elim n w, rd_keep (fun o e => kp a0 o w e) l⟩
      | lkd o =>
        obtain ⟨f1, f2⟩ := fixB j _ ne e2 rfl
        obtain ⟨a0, ea0, q0⟩ := h.sl j _ f1
        obtain ⟨a, ea, q1⟩ := q
        have : a0 = a := by rw [f2, ea0] at ea; cases ea; rfl
        subst this
        have na : a0 ≠ p := fun w => by
          subst w
          cases o with
          | lst _ => exact q0.elim
          | dk _ => obtain ⟨_, _, _, z, _⟩ := q0; rw [hr] at z; cases z
          | dt _ => obtain ⟨_, _, _, z, _⟩ := q0; rw [hr] at z; cases z
        have no : ¬ OwnA S1 σ' a0 → ¬ OwnA (S1.set i s) σ' a0 := fun n w => (sup a0 w).elim n na
        refine ⟨a0, ea, ?_⟩
        cases o with
        | lst _ => exact q1.elim
        | dk _ => obtain ⟨xs, ob, n, z, k1, r⟩ := q1; exact ⟨xs, ob, no n, kp a0 _ na z, k1, r.car c⟩
        | dt _ => obtain ⟨xs, ob, n, z, k1, r⟩ := q1; exact ⟨xs, ob, no n, kp a0 _ na z, k1, r.car c⟩
  · by_cases z1 : i = j
    · by_cases z2 : i = k
      · omega
      · subst z1
        rw [List.getElem?_set_ne z2] at e3
        rw [eσ] at r1; cases r1
        exact absurd ⟨k, w, e3, o2, r2⟩ np
    · rw [List.getElem?_set_ne z1] at e2
      by_cases z2 : i = k
      · subst z2
        rw [eσ] at r2; cases r2
        exact absurd ⟨j, t, e2, o1, r1⟩ np
      · rw [List.getElem?_set_ne z2] at e3
        exact h1.inj j k t w a e2 e3 o1 o2 r1 r2
  · by_cases w : a = p
    · subst w; rw [upd_same]; trivial
    · rw [upd_ne w]
      rcases z with z | z
      · exact h1.bm a z
      · exact h1.bm a (Bne a z w)
  · by_cases w : a = p
    · subst w
      rw [upd_same, ← z, hr]
    · rw [upd_ne w]
      exact r.keep a v (by rw [upd_ne w]; exact z) fun q => n (ownA_lk e m q)
  · obtain ⟨j, t, e2, ht, er2⟩ := z
    rcases get_set e2 with ⟨rfl, rfl, _⟩ | ⟨ne, e2⟩
    · rw [eσ] at er2; cases er2
      exact .inl (ownP ht)
    · rcases r.own a ⟨j, t, e2, ht, er2⟩ with q | q
      · exact .inl (ownA_lk e m q)
      · refine .inr ?_
        by_cases w : a = p
        · subst w; rw [upd_same] at q; cases q
        · rw [upd_ne w] at q; exact q
  · by_cases w : i = j
    · subst w
      rw [e] at e2; cases e2
      exact ⟨by rw [eσ, er], o, List.getElem?_set_self hi1⟩
    · obtain ⟨f1, o', f2⟩ := r.ios j o (by rw [List.getElem?_set_ne w]; exact e2)
      exact ⟨f1, o', by rw [List.getElem?_set_ne w]; exact f2⟩
  · rcases get_set e2 with ⟨rfl, e3, _⟩ | ⟨ne, e2⟩
    · subst e3; exact ⟨o, e⟩
    · obtain ⟨o', f⟩ := r.iob j o e2
      rw [List.getElem?_set_ne ne] at f
      exact ⟨o', f⟩
  · rcases get_set e2 with ⟨rfl, e3, _⟩ | ⟨ne, e2⟩
    · subst e3; exact ⟨e, by rw [eσ, er]⟩
    · exact fixB j t ne e2 hl
  · by_cases w : a = p
    · exact ⟨_, by rw [w, upd_same]⟩
    · obtain ⟨o', f⟩ := r.dom a v (by rw [upd_ne w]; exact z)
      exact ⟨o', by rw [upd_ne w]; exact f⟩
end
end Pw
/-! ### tuples, some of them empty, can be sorted too -/
namespace Pw
open PySem PySem.W PySem.Calls PySem.SeqAt PyProof.Rows
/-- all are tuples with an item, or none is a tuple or None; or all are tuples -/
def Sortab (ds : List PyData) : Prop := PySem.W.Sortable ds ∨ ∀ d, d ∈ ds → ∃ xs, d = .tuple xs
section
variable {prog : Program} {w : World} {A : Around} {s : Shared} {E : Value → Shared → Prop}
theorem call_tuple_lt {Q : Value → Shared → Prop} {l b : Addr} {items items2 : Array Value} {e r : Nat → Bool} (hl : s.heap.IsTuple l items) (hb : s.heap.IsTuple b items2)
    (he : ∀ j (h1 : j < items.size) (h2 : j < items2.size), EqAt A.in1 s items[j] items2[j] (e j)) (hr : ∀ j (h1 : j < items.size) (h2 : j < items2.size), e j = false → RcLt A.in1 s items[j] items2[j] (r j))
    (h : Q (.bool (firstLt e r (decide (items.size < items2.size)) (List.range (min items.size items2.size)))) s) : wpAny (model prog w) A (call (.builtin "tuple.__lt__") [.ref l, .ref b]) Q E s := by
  obtain ⟨⟨cls, dd, data, sl⟩, ho, hc, n, hd⟩ := id hl
  obtain ⟨⟨cls2, dd2, data2, sl2⟩, ho2, hc2, n2, hd2⟩ := id hb
  simp only at hc hd hc2 hd2
  subst hc hd hc2 hd2
  exact call_meets F.slot_tuple_lt ⟨_, ho, rfl⟩ F.entry_tuple_lt (F.args_tuple_lt_2 _ _) (tuple_ltAt l b items items2 n n2 dd dd2 sl sl2 e r) ⟨ho, ho2, he, hr, h⟩
theorem oneLt_tup {f : Bool} {xs : List PyData} {db : PyData} {a b : Value} {as bs : List Addr} {Q : Bool → Shared → Prop} (ra : Reads s.heap a (.tuple xs) as) (rb : Reads s.heap b db bs) (h : alike (.tuple xs) db = true)
    (hu : A.units + min (PyData.tuple xs).depth db.depth < cLine) (hq : Q (dataLt (.tuple xs) db) s) : wpAny (model prog w) A (oneLt' f a b) Q E s := by
  cases f with
  | false => exact oneLt_alike (fun z => by cases z) ra rb h (by simp) hu hq
  | true =>
    cases db with
    | tuple ys =>
      have hal : alikeAll xs ys = true := by simpa [alike] using h
      cases ra with
      | @tuple l o vs n _ as₁ h1 h2 h3 h4 =>
        cases rb with
        | @tuple l' o' vs' n' _ bs₁ k1 k2 k3 k4 =>
          have n1 : vs.size = xs.length := by simpa using ReadsAll.length _ _ _ h4
          have n2 : vs'.size = ys.length := by simpa using ReadsAll.length _ _ _ k4
          rw [dataLt_tuple, ← firstLt_toks xs ys hal, ← n1, ← n2] at hq
          rw [oneLt'_eq]
          simp only [if_true]
          refine wpAny_bind (wpAny_cRoomFor (room_here hu) ?_)
          refine wpAny_bind (wpAny_callSpecialIfBound?_slot (T := "tuple") ⟨_, h1, h2⟩ F.slot_tuple_lt (call_tuple_lt (e := pairEq xs ys) (r := fun j => dataLt (xs.getD j .none) (ys.getD j .none)) ⟨_, h1, h2, _, h3⟩ ⟨_, k1, k2, _, k3⟩ (fun j j1 j2 => ?_) (fun j j1 j2 hj => ?_) ?_))
          · have := eqAt_alikeAll xs ys A.in1 s vs.toList vs'.toList _ _ h4 k4 hal (room_in hu) j (by simpa using j1) (by simpa using j2)
            simpa using this
          · have := rcLt_alikeAll xs ys A.in1 s vs.toList vs'.toList _ _ h4 k4 hal (room_in hu) j (by simpa using j1) (by simpa using j2) hj
            simpa using this
          · exact wpAny_truthy_bool hq
    | _ => exact absurd h (by simp [alike])
theorem each_right {α β : Type} {R : α → β → Prop} {as : List α} {bs : List β} (e : EachIs R as bs) : ∀ b, b ∈ bs → ∃ a, a ∈ as ∧ R a b := by
  induction e with
  | nil => intro b hb; cases hb
  | @cons a b as bs r t ih =>
    intro c hc
    rcases List.mem_cons.mp hc with rfl | hc
    · exact ⟨a, List.mem_cons_self .., r⟩
    · obtain ⟨a', h1, h2⟩ := ih c hc
      exact ⟨a', List.mem_cons_of_mem _ h1, h2⟩
/-- the keys' first items, where they have one -/
theorem firsts_tup {vs : List Value} {ds : List PyData} {Q : List (Option Value) → Shared → Prop} (e : EachIs (fun v d => ∃ as, Reads s.heap v d as) vs ds) (ht : ∀ d, d ∈ ds → ∃ xs, d = .tuple xs) (h : ∀ os : List (Option Value), EachIs (fun o d => o.isSome = true ↔ d ≠ .tuple []) os ds → Q os s) : wpAny (model prog w) A (vs.mapM firstOfTuple') Q E s := by
  induction e generalizing Q with
  | nil => rw [List.mapM_nil]; exact wpAny_pure (h [] .nil)
  | @cons v d vs ds r t ih =>
    obtain ⟨as, r⟩ := r
    obtain ⟨xs, rfl⟩ := ht d (List.mem_cons_self ..)
    rw [List.mapM_cons]
    refine wpAny_bind ?_
    cases r with
    | @tuple a o its n _ _ ho hc hd hr =>
      rw [kas_first_eq]
      refine wpAny_bind (Looks.here (show Looks (model prog w) s.heap (typeOf (.ref a)) o.cls from (Looks.ld ho).andThen .now) ?_)
      rw [hc, if_neg (by first | decide | simp)]
      refine wpAny_bind (listItems_at ho hd (wpAny_pure ?_))
      refine wpAny_bind (ih (fun d hd => ht d (List.mem_cons_of_mem _ hd)) fun os hos => wpAny_pure (h _ (.cons ?_ hos)))
      have hl : its.size = xs.length := by simpa using ReadsAll.length _ _ _ hr
      cases xs with
      | nil =>
        have : its[0]? = none := Array.getElem?_eq_none (by rw [hl]; exact Nat.zero_le _)
        rw [this]; simp
      | cons x xs =>
        have : its[0]?.isSome = true := by
          rw [Array.getElem?_eq_getElem (by rw [hl]; exact Nat.succ_pos _)]; rfl
        simp [this]
theorem SortsAt.tups {vs : List Value} {ds : List PyData} (e : EachIs (fun v d => ∃ as, Reads s.heap v d as) vs ds) (hal : AllAlike ds) (ht : ∀ d, d ∈ ds → ∃ xs, d = .tuple xs) (hemp : PyData.tuple [] ∈ ds) (hu : ∀ d, d ∈ ds → A.units + d.depth < cLine) : SortsAt prog w A s (dataKind s.heap ds) vs := by
  have room : ∀ {d d' : PyData}, d ∈ ds → A.units + min d.depth d'.depth < cLine := fun {d d'} hd => Nat.lt_of_le_of_lt (Nat.add_le_add_left (Nat.min_le_left _ _) _) (hu d hd)
  refine ⟨fun v hv => ?_, ?_⟩
  · obtain ⟨d, hd, as, r⟩ := e.left v hv
    exact ⟨_, dataKind_some hal hd r⟩
  · have anyNone : ∀ os : List (Option Value), EachIs (fun o d => o.isSome = true ↔ d ≠ .tuple []) os ds → (os.toArray.all fun x => x.isSome) = false := by
      intro os hos
      obtain ⟨o, ho, hr⟩ := each_right hos _ hemp
      rw [Bool.eq_false_iff]
      intro z
      rw [List.all_toArray, List.all_eq_true] at z
      exact (hr.mp (z o ho)) rfl
    by_cases hd : ds.head? = some (.tuple [])
    · refine ⟨oneType', fun {E x y a b Q} ha hb hq => by
        obtain ⟨d, as, hd, ra, rfl⟩ := dataKind_inv ha
        obtain ⟨d', as', hd', rb, rfl⟩ := dataKind_inv hb
        obtain ⟨xs, rfl⟩ := ht d hd
        rw [keyLt'_oneType]
        exact oneLt_tup ra rb (hal _ hd _ hd') (room hd) hq, fun h2 E Q hq => ?_⟩
      rw [keyKind'_eq, List.mapM_toArray, map_eq_pure_bind]
      refine wpAny_bind (wpAny_bind (firsts_tup e ht fun os hos => wpAny_pure ?_))
      rw [if_neg (by rw [anyNone os hos]; exact Bool.false_ne_true)]
      have h0 : ((os.toArray[0]?).bind id).isSome = false := by
        cases hos with
        | nil => rfl
        | @cons o d os ds r t =>
          simp only [List.head?_cons, Option.some.injEq] at hd
          subst hd
          cases o with
          | none => rfl
          | some v => exact absurd rfl (r.mp rfl)
      rw [if_neg (by rw [h0]; exact Bool.false_ne_true)]
      rw [oneTypeOnly'_eq, List.mapM_toArray, map_eq_pure_bind]
      refine wpAny_bind (wpAny_bind (wpAny_bind (kas_mapM (r := Value.type "tuple") _ (fun v hv Q' hq => ?_) (wpAny_pure ?_))))
      · obtain ⟨d, hd, as, r⟩ := e.left v hv
        obtain ⟨xs, rfl⟩ := ht d hd
        exact (looks_reads r).here hq
      · cases vs with
        | nil => simp at h2
        | cons v vs =>
          have hall : ((List.map (fun _ => Value.type "tuple") (v :: vs)).toArray.all fun x => x == Value.type "tuple") = true := by
            simp only [List.all_toArray, List.all_map, List.all_eq_true]
            intro _ _
            exact beq_self_eq_true _
          have h0 : (List.map (fun _ => Value.type "tuple") (v :: vs)).toArray[0]? = some (Value.type "tuple") := by simp
          rw [h0]
          simp only [hall, if_true]
          exact wpAny_pure (wpAny_pure hq)
    · refine ⟨general', fun {E x y a b Q} ha hb hq => by
        obtain ⟨d, as, hd, ra, rfl⟩ := dataKind_inv ha
        obtain ⟨d', as', hd', rb, rfl⟩ := dataKind_inv hb
        obtain ⟨xs, rfl⟩ := ht d hd
        show wpAny _ _ (oneLt' false x y) _ _ _
        exact oneLt_tup ra rb (hal _ hd _ hd') (room hd) hq, fun h2 E Q hq => ?_⟩
      rw [keyKind'_eq, List.mapM_toArray, map_eq_pure_bind]
      refine wpAny_bind (wpAny_bind (firsts_tup e ht fun os hos => wpAny_pure ?_))
      rw [if_neg (by rw [anyNone os hos]; exact Bool.false_ne_true)]
      have h0 : ((os.toArray[0]?).bind id).isSome = true := by
        cases hos with
        | nil => exact absurd hemp (by simp)
        | @cons o d os ds r t =>
          have : o.isSome = true := r.mpr fun z => hd (by rw [z]; rfl)
          cases o with
          | none => cases this
          | some v => rfl
      rw [if_pos h0]
      exact wpAny_pure hq
theorem SortsAt.data' {vs : List Value} {ds : List PyData} (e : EachIs (fun v d => ∃ as, Reads s.heap v d as) vs ds) (hal : AllAlike ds) (hk : Sortab ds) (hu : ∀ d, d ∈ ds → A.units + d.depth < cLine) : SortsAt prog w A s (dataKind s.heap ds) vs := by
  rcases hk with hk | ht
  · exact PySem.W.SortsAt.data e hal hk hu
  · by_cases hemp : PyData.tuple [] ∈ ds
    · exact SortsAt.tups e hal ht hemp hu
    · refine PySem.W.SortsAt.data e hal (.inl fun d hd => ?_) hu
      obtain ⟨xs, rfl⟩ := ht d hd
      cases xs with
      | nil => exact absurd hd hemp
      | cons x r => exact ⟨x, r, rfl⟩
end
end Pw
namespace Pw
open PySem PySem.Spec L2

section
variable {α : Type} {G : Cxt} {S S1 S2 S3 : List Sl} {a b c e f tg : Expr} {es : List Expr} {d d1 d2 : PyData} {ds ds2 : List (Key × PyData)} {o o' o1 o2 : Ob} {s s1 : Sl} {pos p1 p2 : Pos} {K : PySem.W.Frag} {A B : AP} {σ σ' : L2.St} {H H' : Hp} {p : Addr} {vs : List V} {i : Nat} {j : Int} {x : Str} {u : HO} {k : Key}
theorem PE_or {X : Cx} {t1 t2 : TE} (h1 : PE X e t1) (h2 : PE X e t2) : PE X e (fun σ H Q => t1 σ H Q ∨ t2 σ H Q) := ⟨fun pins s σ H Q I h => h.elim (h1.run pins s σ H Q I) (h2.run pins s σ H Q I)⟩
theorem PS_or {X : Cx} {st : Stmt} {t1 t2 : TS} (h1 : PS X st t1) (h2 : PS X st t2) : PS X st (fun D σ H => t1 D σ H ∨ t2 D σ H) := ⟨fun pins s σ H D I h => h.elim (h1.run pins s σ H D I) (h2.run pins s σ H D I)⟩
/-- a dict that was locked already: back to one that is read -/
theorem lkd_bor (e : S[i]? = some (.bor (.dk ds))) (h1 : Holds K B S1 σ' H') (r : Rel (S.set i (.lkd (.dk ds))) σ H S1 σ' H') (e1 : S1[i]? = some (.lkd (.dk ds))) :
    Holds K B (S1.set i (.bor (.dk ds))) σ' H' ∧ Rel S σ H (S1.set i (.bor (.dk ds))) σ' H' ∧ ∀ a, OwnA (S1.set i (.bor (.dk ds))) σ' a ↔ OwnA S1 σ' a := by
  have hi : i < S.length := (List.getElem?_eq_some_iff.mp e).1
  have hi1 : i < S1.length := (List.getElem?_eq_some_iff.mp e1).1
  have own1 : ∀ a, OwnA (S1.set i (.bor (.dk ds))) σ' a ↔ OwnA S1 σ' a := fun a => by
    constructor
    · rintro ⟨j, t, e2, ht, er⟩
      rcases get_set e2 with ⟨rfl, rfl, _⟩ | ⟨ne, e2⟩
      · cases ht
      · exact ⟨j, t, e2, ht, er⟩
    · rintro ⟨j, t, e2, ht, er⟩
      have ne : i ≠ j := fun z => by subst z; rw [e1] at e2; cases e2; cases ht
      exact ⟨j, t, by rw [List.getElem?_set_ne ne]; exact e2, ht, er⟩
  have own0 : ∀ a, OwnA (S.set i (.lkd (.dk ds))) σ a ↔ OwnA S σ a := fun a => by
    constructor
    · exact ownA_lk e .bor
    · rintro ⟨j, t, e2, ht, er⟩
      have ne : i ≠ j := fun z => by subst z; rw [e] at e2; cases e2; cases ht
      exact ⟨j, t, by rw [List.getElem?_set_ne ne]; exact e2, ht, er⟩
  have c : Car (Av S1 σ' B) (Av (S1.set i (.bor (.dk ds))) σ' B) H' H' := Car.imp fun a z => z.imp (own1 a).mp id
  refine ⟨⟨by rw [List.length_set]; exact h1.len, fun j t e2 => ?_, fun j k t w a e2 e3 o1 o2 r1 r2 => ?_, h1.bm⟩, ⟨fun a v z n => r.keep a v z fun q => n ((own0 a).mp q), fun a z => (r.own a ((own1 a).mp z)).imp (own0 a).mp id, fun j o e2 => ?_, by rw [List.length_set, r.len, List.length_set], fun j o e2 => ?_, fun j t e2 hl => ?_, r.dom⟩, own1⟩
  · rcases get_set e2 with ⟨rfl, rfl, _⟩ | ⟨ne, e2⟩
    · obtain ⟨a, ea, q⟩ := h1.sl i _ e1
      exact ⟨a, ea, q.rd.car c fun a u n z => ⟨fun w => n ((own1 a).mp w), z⟩⟩
    · exact (h1.sl j t e2).car c (fun a u n z => ⟨fun w => n ((own1 a).mp w), z⟩) fun _ _ _ _ z => z
  · by_cases z1 : i = j
    · subst z1; rw [List.getElem?_set_self hi1] at e2; cases e2; cases o1
    · rw [List.getElem?_set_ne z1] at e2
      by_cases z2 : i = k
      · subst z2; rw [List.getElem?_set_self hi1] at e3; cases e3; cases o2
      · rw [List.getElem?_set_ne z2] at e3
        exact h1.inj j k t w a e2 e3 o1 o2 r1 r2
  · have ne : i ≠ j := fun z => by subst z; rw [e] at e2; cases e2
    obtain ⟨f1, o', f2⟩ := r.ios j o (by rw [List.getElem?_set_ne ne]; exact e2)
    exact ⟨f1, o', by rw [List.getElem?_set_ne ne]; exact f2⟩
  · rcases get_set e2 with ⟨rfl, e3, _⟩ | ⟨ne, e2⟩
    · cases e3
    · obtain ⟨o', f⟩ := r.iob j o e2
      rw [List.getElem?_set_ne ne] at f
      exact ⟨o', f⟩
  · rcases get_set e2 with ⟨rfl, e3, _⟩ | ⟨ne, e2⟩
    · subst e3
      exact ⟨e, (r.fix i _ e1 rfl).2⟩
    · obtain ⟨f1, f2⟩ := r.fix j t e2 hl
      rw [List.getElem?_set_ne ne] at f1
      exact ⟨f1, f2⟩
theorem bm_or : (fun a => Bm B p a ∨ B a) = B := by
  funext a
  exact propext ⟨fun h => h.elim (fun z => z.1) id, .inr⟩
theorem bmp_or {q : Addr} : (fun a => Bp (Bm B p) q a ∨ B a) = Bp B q := by
  funext a
  refine propext ⟨fun h => ?_, fun h => ?_⟩
  · rcases h with (h | h) | h
    · exact .inl h.1
    · exact .inr h
    · exact .inl h
  · rcases h with h | h
    · exact .inr h
    · exact .inl (.inr h)
theorem de_lock (hs : S[i]? = some s) (m : Lkb s (.dk ds)) (h : DE G e (S.set i (.lkd (.dk ds))) d S1) (h1 : S1[i]? = some (.lkd (.dk ds))) : DE G e S d (S1.set i s) := fun X ok =>
  PE_weak (PE_or (pe_lock (h X ok)) (h X ok)) fun σ H Q ⟨B, hh, kk⟩ => by
    obtain ⟨p, er, q⟩ := hh.lock hs m
    rcases q with ⟨kvs, hp, q⟩ | ⟨od, kvs, hp, es, q⟩
    · refine .inl ⟨p, _, hp, trivial, fun od => ⟨Bm B p, q od, fun v H1 hh1 r1 q1 => ?_⟩⟩
      obtain ⟨f1, f2, f3, f4, f5⟩ := hh.unlock hs m er hp (fun _ z => z) hh1 r1 h1
      rw [bm_or] at f2 f4
      exact ⟨f1, kk v _ f2 f3 (q1.car f4)⟩
    · subst es
      refine .inr ⟨B, q, fun v H1 hh1 r1 q1 => ?_⟩
      obtain ⟨f1, f2, f3⟩ := lkd_bor hs hh1 r1 h1
      exact kk v _ f1 f2 (q1.car (Car.imp fun a z => z.imp (f3 a).mp id))
theorem df_lock (hs : S[i]? = some s) (m : Lkb s (.dk ds)) (h : DF G e (S.set i (.lkd (.dk ds))) o S1) (h1 : S1[i]? = some (.lkd (.dk ds))) : DF G e S o (S1.set i s) := fun X ok =>
  PE_weak (PE_or (pe_lock (h X ok)) (h X ok)) fun σ H Q ⟨B, hh, kk⟩ => by
    obtain ⟨p, er, q⟩ := hh.lock hs m
    rcases q with ⟨kvs, hp, q⟩ | ⟨od, kvs, hp, es, q⟩
    · refine .inl ⟨p, _, hp, trivial, fun od => ⟨Bm B p, q od, fun p2 H1 hp2 n hh1 r1 q1 => ?_⟩⟩
      have ne : p2 ≠ p := fun z => by rw [z, upd_same] at hp2; cases hp2
      obtain ⟨f1, f2, f3, f4, f5⟩ := hh.unlock hs m er hp (fun _ z => .inl z) hh1 r1 h1
      rw [bmp_or] at f2 f4
      rw [upd_ne ne] at hp2
      exact ⟨f1, kk p2 _ hp2 (fun z => (f5 p2 z).elim n ne) f2 f3 (q1.car f4 fun u z => by rw [upd_ne ne]; exact z)⟩
    · subst es
      refine .inr ⟨B, q, fun p2 H1 hp2 n hh1 r1 q1 => ?_⟩
      obtain ⟨f1, f2, f3⟩ := lkd_bor hs hh1 r1 h1
      exact kk p2 _ hp2 (fun z => n ((f3 p2).mp z)) f1 f2 (q1.car (Car.imp fun a z => z.imp (f3 a).mp id) fun _ e => e)
/-- the keys, in their order -/
theorem jok_keys {kvs : List (Key × V)} {od : Obj} (n : ¬ OwnA S σ p) (hp : H p = some (.frz od (.dK kvs))) (rk : kvs.map (·.1) = ds.map (·.1)) : JOk K S σ B H (Itk p od kvs) (ds.map fun q => kD q.1) := JOk_of fun H2 kk => by
  have h2 := kk p _ hp n
  have hl : kvs.length = ds.length := by
    have := congrArg List.length rk
    rwa [List.length_map, List.length_map] at this
  refine ⟨fun i d ed => ?_, fun i hi => ⟨h2, by rw [List.length_map] at hi; omega⟩⟩
  have hi : i < kvs.length := by
    have := (List.getElem?_eq_some_iff.mp ed).1
    rw [List.length_map] at this
    omega
  refine ⟨⟨h2, hi⟩, fun x H3 ⟨e1, k, v, e2, e3⟩ => ⟨e1, ?_⟩⟩
  have ek : (ds.map (·.1))[i]? = some k := by rw [← rk, List.getElem?_map, e2]; rfl
  rw [List.getElem?_map] at ek ed
  cases q : ds[i]? with
  | none => rw [q] at ek; cases ek
  | some z =>
    rw [q] at ek ed
    cases ek; cases ed
    rw [e3]
    exact key_rep
theorem di_keys (hx : G.tab.lookup x = some i) (hs : S[i]? = some (.lkd (.dk ds))) : DI G tg (.Name x pos) S (ds.map fun q => kD q.1) S := fun X ok => by
  obtain ⟨h1, h2, h3, h4⟩ := ok.var hx
  refine PI_weak (pi_keys (pe_var h1 h2 h3 h4)) fun σ H R ⟨B, hh, k⟩ => ?_
  obtain ⟨p, e, kvs, od, n, hp, r⟩ := hh.sl i _ hs
  exact ⟨_, e, p, od, rfl, .inl ⟨kvs, hp, k _ H hh Rel.refl (jok_keys n hp r.1)⟩⟩
theorem reps_ints : ∀ {ys : List Int}, Reps K A H (ys.map V.int) (ys.map PyData.int)
  | [] => .nil
  | _ :: _ => .cons (.int _) reps_ints
/-- sorted(d) -/
theorem df_sortedDI {ks : List Int} (hx : G.blt.elem ("sorted" : Str) = true) (h : DB G e S (.dk ds) S1) (hk : ds.map (·.1) = ks.map Sum.inl) (h64 : ks.length < 64) (hs : ∀ env, starEach [e] env = (false, eval e env) :: starEach [] env := by intro _; rfl) (hp : ∀ env, (backTo pos (starEach ([] : List Expr) env)).any (·.1) = false := by intro _; rfl) :
    DF G (.Call (.Name "sorted" p1) [e] [] pos) S (.lst ((ks.mergeSort fun a b => decide (a ≤ b)).map PyData.int)) S1 := fun X ok => by
  obtain ⟨hg, hm, _, _⟩ := ok.gl (elem_mem hx)
  refine PE_weak (pe_callB (call_sortedDI ok.calm) hg hm bo_sorted (pa_b (h X ok) (hs _)) (by decide) (by decide) (hs _) (hp _)) fun σ H Q ⟨B, hh, kk⟩ => ⟨B, hh, fun p H1 h1 r1 ⟨kvs, ⟨_, la⟩, rs⟩ => ?_⟩
  refine ⟨p, kvs, ks, rfl, la, rs.1.trans hk, h64, fun ys q hy1 hy2 hq => ?_⟩
  have ey : ys = ks.mergeSort fun a b => decide (a ≤ b) := by
    refine List.Perm.eq_of_pairwise (le := fun a b => a ≤ b) (fun a b _ _ h1 h2 => Int.le_antisymm h1 h2) hy2 ?_ (hy1.trans (List.mergeSort_perm _ _).symm)
    exact (List.pairwise_mergeSort (le := fun a b => decide (a ≤ b)) (fun a b c h1 h2 => by simp only [decide_eq_true_eq] at *; omega) (fun a b => by simp only [Bool.or_eq_true, decide_eq_true_eq]; omega) ks).imp fun h => of_decide_eq_true h
  rw [← ey] at kk
  exact kk q _ (r1.free hq) (h1.free hq) (h1.newB hq trivial) (r1.trans (Rel.same (upd_keep hq))) ⟨_, upd_same, reps_ints⟩
end

/-! ### sorted of lists and tuples -/
section
variable {prog : Program} {w : World} {A : Around} {E : Value → Shared → Prop} {s : Shared}
def SeqOf (h : Heap) (l : Addr) (vs : List Value) : Prop := ∃ o n, h.get? l = some o ∧ (o.cls = .type "list" ∨ o.cls = .type "tuple") ∧ o.data = .seq vs.toArray n
open PyProof.Rows PySem.W in
theorem collect_seq {l : Addr} {vs : List Value} {Q : List Value → Shared → Prop} (hl : SeqOf s.heap l vs) (hsz : vs.length ≤ sizeLine)
    (h : Q vs { s with heap := (s.heap.push (seqObj "list" #[] 0)).update s.heap.objs.size (Obj.mapSeq (· ++ vs.toArray)) }) : wpAny (model prog w) A (collect (.ref l)) Q E s := by
  obtain ⟨ob, n, hob, hcl, hdt⟩ := hl
  obtain ⟨T, hT, hor⟩ : ∃ T, ob.cls = .type T ∧ (T = "list" ∨ T = "tuple") := hcl.elim (fun z => ⟨_, z, .inl rfl⟩) fun z => ⟨_, z, .inr rfl⟩
  unfold collect; refine wpAny_bind (wpAny_runValue (codeAny_builtin entry_proto_collect' ?_))
  show wpAny _ _ (do again (.builtin "list.__iadd__" ⟨[← newList [], .ref l], []⟩)) _ _ s; refine wpAny_bind (wpAny_newList (wpAny_pure ⟨Code.quiet_builtin _ (by decide +kernel), codeAny_builtin entry_list_iadd' ?_⟩))
  show wpAny _ _ (Builtin.List.listExtendWith (.ref s.heap.objs.size) (.ref l) (.ref s.heap.objs.size)) _ _ { s with heap := s.heap.push (seqObj "list" #[] 0) }; unfold Builtin.List.listExtendWith
  have hob' : (s.heap.push (seqObj "list" #[] 0)).get? l = some ob := Heap.get?_push_of_some _ hob
  refine wpAny_bind (wpAny_typeOf (T := T) ⟨ob, hob', hT⟩ ?_)
  rw [if_pos (by rcases hor with rfl | rfl <;> simp)]
  refine wpAny_bind (listItems_at hob' hdt (wpAny_bind (listItems_at (xs := #[]) (n := 0) (Heap.get?_push_size _ rfl) rfl ?_)))
  rw [if_neg (by simp)]; refine wpAny_bind (listUpdate_at (xs := #[]) (n := 0) (Heap.get?_push_size _ rfl) rfl (wpAny_pure ?_) (Nat.zero_le _) (by show (#[] ++ vs.toArray).size ≤ sizeLine + 1; simp only [Array.size_append, List.size_toArray, List.length_nil]; omega))
  show wpAny (model prog w) A (do { let o ← load s.heap.objs.size; match o.data with | .seq xs _ => pure xs.toList | _ => unsupported "internal:collect" }) Q E { s with heap := (s.heap.push (seqObj "list" #[] 0)).update s.heap.objs.size (Obj.mapSeq (· ++ vs.toArray)) }
  refine wpAny_bind (wpAny_load (get?_update_seq (Heap.get?_push_size _ rfl) _) ?_)
  show wpAny _ _ (pure ((#[] : Array Value) ++ vs.toArray).toList) Q E _; rw [show ((#[] : Array Value) ++ vs.toArray).toList = vs by simp]
  exact wpAny_pure h
open PyProof.Rows PySem.W in
theorem sorted_seq {l : Addr} {vs : List Value} {κ : KeyKind} {Q : Value → Shared → Prop} (hl : SeqOf s.heap l vs) (hL : vs.length ≤ sizeLine) (S : SortsAt prog w A.in1.in1 { s with heap := sortingHeap (copyHeap s.heap vs) (s.heap.objs.size + 1) vs } κ vs)
    (h : Q (.ref (s.heap.objs.size + 1)) { s with heap := sortedAll s.heap vs (sortVals κ false vs vs).toArray }) : wpAny (model prog w) A (call (.builtin "sorted") [.ref l]) Q E s := by
  refine call_function_entry_kw kind_sorted plain_sorted entry_sorted (args_sorted1 _) ?_
  unfold Builtin.«sorted»; refine wpAny_bind (m := checkCount "sorted" 1 1 _) (wpAny_pure (wpAny_bind (collect_seq hl hL (wpAny_bind (wpAny_newList ?_ hL)))))
  have hn : ((s.heap.push (seqObj "list" #[] 0)).update s.heap.objs.size (Obj.mapSeq (· ++ vs.toArray))).objs.size = s.heap.objs.size + 1 := by
    rw [Heap.size_update, size_push']
  show wpAny _ _ _ _ _ { s with heap := copyHeap s.heap vs }; rw [hn]
  refine wpAny_bind (wpAny_holding (wpAny_call_entry_kw slot_list_sort ⟨_, copyHeap_at s.heap vs, rfl⟩ entry_list_sort ?_ (args_list_sort _)))
  show wpAny (model prog w) A.in1.in1 (Builtin.«list.sort» ⟨[.ref (s.heap.objs.size + 1)], []⟩) _ _ _
  refine wpAny_mono (list_sort_vals (P := fun f s' => f = .done (.ret .none) ∧ Q (.ref (s.heap.objs.size + 1)) s') (s := { s with heap := copyHeap s.heap vs }) (copyHeap_at s.heap vs) S hL ⟨rfl, h⟩) (fun f s' hf => ?_) fun _ _ z => z
  obtain ⟨rfl, hq⟩ := hf; exact ⟨_, rfl, wpAny_pure ⟨_, rfl, hq⟩⟩
end
/-! .. as a rule -/
section
open PySem.W
variable {G : Cxt} {S S1 : List Sl} {e : Expr} {ds : List PyData} {pos p1 : Pos}
/-- a list or a tuple that reads as ds -/
def rSortD (K : PySem.W.Frag) (ds : List PyData) : List V → Hp → VK → Prop := fun vs H Q => ∃ A a xs, vs = [.ref a] ∧ (SqL K H a xs ∨ SqT K H a xs) ∧ Reps K A H xs ds ∧ AllAlike ds ∧ Sortab ds ∧ (∀ d ∈ ds, d.depth ≤ 100) ∧
  ∀ zs p, H p = none → Reps K A H zs (ds.mergeSort (dataLe false id)) → Q (.ref p) (upd H p (.lst zs))
theorem zip_fst : ∀ {xs : List V} {ds : List PyData}, xs.length = ds.length → (xs.zip ds).map Prod.fst = xs
  | [], [], _ => rfl
  | x :: xs, d :: ds, h => by rw [List.zip_cons_cons, List.map_cons, zip_fst (by simpa using h)]
theorem zip_snd : ∀ {xs : List V} {ds : List PyData}, xs.length = ds.length → (xs.zip ds).map Prod.snd = ds
  | [], [], _ => rfl
  | x :: xs, d :: ds, h => by rw [List.zip_cons_cons, List.map_cons, zip_snd (by simpa using h)]
theorem each_zip {K : PySem.W.Frag} {A : AP} {H : Hp} : ∀ {xs : List V} {us : List Value} {ds : List PyData}, Vals xs us → Reps K A H xs ds → EachIs (fun u (b : V × PyData) => RelV b.1 u ∧ Rep K A H b.1 b.2) us (xs.zip ds)
  | _, _, _, .nil, .nil => .nil
  | _, _, _, .cons r t, .cons q t' => .cons ⟨r, q⟩ (each_zip t t')
theorem each_vals {K : PySem.W.Frag} {A : AP} {H : Hp} : ∀ {us : List Value} {bs : List (V × PyData)}, EachIs (fun u (b : V × PyData) => RelV b.1 u ∧ Rep K A H b.1 b.2) us bs → Vals (bs.map Prod.fst) us ∧ Reps K A H (bs.map Prod.fst) (bs.map Prod.snd)
  | _, _, .nil => ⟨.nil, .nil⟩
  | _, _, .cons r t => ⟨.cons r.1 (each_vals t).1, .cons r.2 (each_vals t).2⟩
theorem each_mono {α : Type} {R R' : Value → α → Prop} (h : ∀ u a, R u a → R' u a) : ∀ {us : List Value} {bs : List α}, EachIs R us bs → EachIs R' us bs
  | _, _, .nil => .nil
  | _, _, .cons r t => .cons (h _ _ r) (each_mono h t)
theorem sort_snd {xs : List (V × PyData)} : (xs.mergeSort (dataLe false Prod.snd)).map Prod.snd = (xs.map Prod.snd).mergeSort (dataLe false id) := List.map_mergeSort fun _ _ _ _ => rfl
theorem cr_sortD {X : Cx} (ok : G.Ok X) : CallR X (.builtin "sorted") (rSortD X.K ds) := fun pins s σ H vs us Q I r ⟨A, a, xs, e, hs, rs, hal, hk, hz, q⟩ => by
  subst e
  rw [Vals.ref1 r]
  obtain ⟨its, rv, hl, hL⟩ : ∃ its, Vals xs its ∧ SeqOf s.heap a its ∧ its.length ≤ sizeLine := by
    rcases hs with hs | hs
    · obtain ⟨its, rv, pl, hL⟩ := I.list hs
      obtain ⟨o, n, e, c, z, d⟩ := pl
      exact ⟨its, rv, ⟨o, n, e, .inl c, d⟩, by rw [← rv.length]; exact hL⟩
    · obtain ⟨its, rv, pl, hL⟩ := I.tuple hs
      obtain ⟨o, e, c, n, d⟩ := pl
      exact ⟨its, rv, ⟨o, n, e, .inr c, d⟩, by rw [← rv.length]; exact hL⟩
  have lx := rs.length
  have ez := each_zip rv rs
  have ks : (xs.zip ds).map Prod.snd = ds := zip_snd lx
  have hal' : AllAlike ((xs.zip ds).map Prod.snd) := by rw [ks]; exact hal
  have er : EachIs (fun u (b : V × PyData) => ∃ as, PySem.Reads s.heap u b.2 as) its (xs.zip ds) := each_mono (fun u b z => z.2.reads I z.1) ez
  have er2 : EachIs (fun u (b : V × PyData) => ∃ as, PySem.Reads (sortingHeap (copyHeap s.heap its) (s.heap.objs.size + 1) its) u b.2 as) its (xs.zip ds) :=
    each_mono (fun u b ⟨as, z⟩ => ⟨as, PyProof.Rows.Reads.keeps (fun _ _ => sorting_copy_old) z⟩) er
  refine sorted_seq hl hL (Pw.SortsAt.data' (s := { s with heap := sortingHeap (copyHeap s.heap its) (s.heap.objs.size + 1) its }) (each_map (R := fun u d => ∃ as, PySem.Reads (sortingHeap (copyHeap s.heap its) (s.heap.objs.size + 1) its) u d as) Prod.snd er2) hal' (by rw [ks]; exact hk) (fun d hd => ?_)) ?_
  · rw [ks] at hd
    have := hz d hd
    have := ok.un
    show X.A.units + 2 + d.depth < cLine
    omega
  · have e1 := sortVals_data false ez er2 hal'
    obtain ⟨v1, v2⟩ := each_vals e1
    rw [sort_snd, ks] at v2
    obtain ⟨ep, hat⟩ := PyProof.Rows.sortedAll_at s.heap its (sortVals (dataKind (sortingHeap (copyHeap s.heap its) (s.heap.objs.size + 1) its) ((xs.zip ds).map Prod.snd)) false its its).toArray
    refine ⟨.ref _, upd H (s.heap.objs.size + 1) (.lst _), I.laid (t' := s.toks) (fun _ _ => PyProof.Rows.sortedAll_old) (Nat.le_succ _) ⟨?_, _, ep, v1, hat⟩, rfl, q _ _ (I.hok.fresh (Nat.le_succ _)) v2⟩
    rw [v1.length, sortVals_length false rfl]
    exact hL
theorem df_sortedT (hx : G.blt.elem ("sorted" : Str) = true) (h : DE G e S (.tuple ds) S1) (hal : AllAlike ds) (hk : Sortab ds) (hz : ∀ d ∈ ds, d.depth ≤ 100) (hs : ∀ env, starEach [e] env = (false, eval e env) :: starEach [] env := by intro _; rfl) (hp : ∀ env, (backTo pos (starEach ([] : List Expr) env)).any (·.1) = false := by intro _; rfl) :
    DF G (.Call (.Name "sorted" p1) [e] [] pos) S (.lst (ds.mergeSort (dataLe false id))) S1 := fun X ok => by
  obtain ⟨hg, hm, _, _⟩ := ok.gl (elem_mem hx)
  refine PE_weak (pe_callB (cr_sortD (ds := ds) ok) hg hm bo_sorted (dd_one h hs X ok) (by decide) (by decide) (hs _) (hp _)) fun σ H Q ⟨B, hh, kk⟩ => ⟨B, hh, fun vs H1 h1 r1 q1 => ?_⟩
  obtain ⟨v, rfl, rv⟩ := reps_one q1
  cases rv with
  | @tup p xs _ la rs => exact ⟨_, p, xs, rfl, .inr la.sq, rs, hal, hk, hz, fun zs q hq rz => kk q _ (r1.free hq) (h1.free hq) (h1.newB hq trivial) (r1.trans (Rel.same (upd_keep hq))) ⟨_, upd_same, rz.new (upd_keep hq) hq⟩⟩
theorem df_sortedL (hx : G.blt.elem ("sorted" : Str) = true) (h : DB G e S (.lst ds) S1) (hal : AllAlike ds) (hk : Sortab ds) (hz : ∀ d ∈ ds, d.depth ≤ 100) (hs : ∀ env, starEach [e] env = (false, eval e env) :: starEach [] env := by intro _; rfl) (hp : ∀ env, (backTo pos (starEach ([] : List Expr) env)).any (·.1) = false := by intro _; rfl) :
    DF G (.Call (.Name "sorted" p1) [e] [] pos) S (.lst (ds.mergeSort (dataLe false id))) S1 := fun X ok => by
  obtain ⟨hg, hm, _, _⟩ := ok.gl (elem_mem hx)
  refine PE_weak (pe_callB (cr_sortD (ds := ds) ok) hg hm bo_sorted (pa_b (h X ok) (hs _)) (by decide) (by decide) (hs _) (hp _)) fun σ H Q ⟨B, hh, kk⟩ => ⟨B, hh, fun p H1 h1 r1 ⟨xs, la, rs⟩ => ?_⟩
  exact ⟨_, p, xs, rfl, .inl la.sq, rs, hal, hk, hz, fun zs q hq rz => kk q _ (r1.free hq) (h1.free hq) (h1.newB hq trivial) (r1.trans (Rel.same (upd_keep hq))) ⟨_, upd_same, rz.new (upd_keep hq) hq⟩⟩
end
end Pw
namespace Pw
open PySem PySem.Spec L2

section
open PyProof.Rows PySem.SeqAt PySem.MeetsSeq PySem.MeetsSeq2 PySem.MeetsSeq3
variable {prog : Program} {w : World} {A : Around} {E : Value → Shared → Prop} {s : Shared}
theorem rev_places (n : Nat) : Builtin.Slice.slicePlaces ((n : Int) - 1) (-1) (-1) = n := by
  unfold Builtin.Slice.slicePlaces
  rw [if_neg (by decide)]
  by_cases h : (n : Int) - 1 > -1
  · rw [if_pos h, show (- -1 : Int) = 1 by decide, Int.ediv_one]; omega
  · rw [if_neg h]; omega
theorem rev_applied {sl : Addr} {vs : Value} {n : Nat} {Q : Int × Int × Nat → Shared → Prop} (hs : s.heap.IsSliceOf sl .none .none vs) (ps : IsPart vs (some (-1)))
    (h : Q ((n : Int) - 1, -1, n) s) : wpAny (model prog w) A (Builtin.Slice.sliceApplied (.ref sl) (pure (n : Int))) Q E s := by
  obtain ⟨os, hos, hcs, hds⟩ := id hs
  unfold Builtin.Slice.sliceApplied Builtin.Slice.sliceFields
  refine wpAny_bind (wpAny_bind (wpAny_field hos hds (x := .none) rfl (wpAny_bind (wpAny_field hos hds (x := .none) rfl (wpAny_bind (wpAny_field hos hds (x := vs) rfl (wpAny_pure ?_)))))))
  refine wpAny_bind (HT.slicePart_ ps ?_)
  show wpAny _ _ (if ((-1 : Int) == 0) = true then _ else _) _ _ s
  rw [if_neg (by decide)]
  refine wpAny_bind (slicePart_none (wpAny_bind (slicePart_none (wpAny_bind (wpAny_pure ?_)))))
  show wpAny _ _ (pure ((n : Int) - 1, (-1 : Int), Builtin.Slice.slicePlaces ((n : Int) - 1) (-1) (-1))) _ _ s
  rw [rev_places]
  exact wpAny_pure h
theorem fm_congr {α β : Type} {f g : α → Option β} : ∀ l : List α, (∀ x ∈ l, f x = g x) → l.filterMap f = l.filterMap g
  | [], _ => rfl
  | a :: l, h => by
    rw [List.filterMap_cons, List.filterMap_cons, h a List.mem_cons_self, fm_congr l fun x hx => h x (List.mem_cons_of_mem _ hx)]
theorem rev_pick (xs : Array Value) : ((List.range xs.size).filterMap fun (m : Nat) => xs[(((xs.size : Int) - 1) + (m : Int) * (-1)).toNat]?).toArray = xs.toList.reverse.toArray := by
  have e : ((List.range xs.size).filterMap fun (m : Nat) => xs[(((xs.size : Int) - 1) + (m : Int) * (-1)).toNat]?) = ((List.range xs.size).map fun k => xs.size - 1 - k).filterMap (xs[·]?) := by
    rw [List.filterMap_map]
    refine fm_congr _ fun m hm => ?_
    have := List.mem_range.mp hm
    show xs[(((xs.size : Int) - 1) + (m : Int) * (-1)).toNat]? = xs[xs.size - 1 - m]?
    rw [show (((xs.size : Int) - 1) + (m : Int) * (-1)).toNat = xs.size - 1 - m by omega]
  rw [e, PySem.W.krv_range, List.filterMap_reverse, PySem.W.krv_all]
theorem rev_tuple {t sl : Addr} {items : Array Value} {vs : Value} {Q : Value → Shared → Prop} (ht : IsTup s.heap t items) (hs : s.heap.IsSliceOf sl .none .none vs) (ps : IsPart vs (some (-1)))
    (h : Q (.ref s.heap.objs.size) { s with heap := s.heap.push { cls := .type "tuple", data := .seq items.toList.reverse.toArray } }) (hsz : items.size ≤ sizeLine) : wpAny (model prog w) A (getItem (.ref t) (.ref sl)) Q E s := by
  have hok : sizeOk (.seq items.toList.reverse.toArray) := by
    show items.toList.reverse.toArray.size ≤ sizeLine
    rw [List.size_toArray, List.length_reverse, Array.length_toList]; exact hsz
  obtain ⟨os, hos, hcs, hds⟩ := id hs
  have hTs : s.TypeIs (.ref sl) "slice" := ⟨os, hos, hcs⟩
  unfold getItem
  try with_reducible refine wpAny_holding ?_
  first | refine wpAny_bind (wpAny_pure ?_) | skip
  refine wpAny_bind (wpAny_sequenceKey ht.typeIs (by decide) (wpAny_bind (wpAny_callSpecial?_slot (name := Str.ofString "__getitem__") ht.typeIs PyProof.Rows.slot_tuple_getitem (wpAny_call_entry PyProof.Rows.slot_tuple_getitem ht.typeIs entry_tuple_getitem ?_ (args_tuple_getitem _ _)))))
  show wpAny _ _ (Builtin.Tuple.tupleItemsOf (.ref t) >>= _) _ _ s; refine wpAny_bind (tupleItemsOf_ ht (wpAny_bind (wpAny_typeOf hTs ?_)))
  rw [if_pos (by decide)]
  refine wpAny_bind (rev_applied hs ps ?_)
  show wpAny _ _ (if (((items.size : Int) - 1 == 0 && (-1 : Int) == 1 && items.size == items.size)) = true then _ else _) _ _ s
  rw [if_neg (by simp), rev_pick]
  first
    | exact wpAny_bind (m := Builtin.Tuple.tupleExact _) (wpAny_newObj_type (wpAny_pure ⟨_, rfl, wpAny_pure h⟩) hok)
    | exact wpAny_bind (m := Builtin.Tuple.tupleExact _) (wpAny_newObj_type (wpAny_bind (wpAny_pure (wpAny_pure ⟨_, rfl, wpAny_pure h⟩))) hok)
    | exact wpAny_bind (wpAny_bind (m := Builtin.Tuple.tupleExact _) (wpAny_newObj_type (wpAny_pure (wpAny_pure ⟨_, rfl, wpAny_pure h⟩)) hok))
    | exact wpAny_bind (wpAny_bind (m := Builtin.Tuple.tupleExact _) (wpAny_newObj_type (wpAny_pure ⟨_, rfl, wpAny_pure h⟩) hok))
end
section
open PyProof.Rows
variable {α : Type} {G : Cxt} {S S1 S2 S3 : List Sl} {a b c e f tg : Expr} {es : List Expr} {d d1 d2 : PyData} {ds : List PyData} {o o' o1 o2 : Ob} {s s1 : Sl} {pos p1 p2 : Pos} {K : PySem.W.Frag} {A B : AP} {σ σ' : L2.St} {H H' : Hp} {p : Addr} {vs : List V} {i : Nat} {j : Int} {x : Str} {u : HO} {k : Key}
def tRevT (K : PySem.W.Frag) (te : TE) : TE := fun σ H Q => te σ H fun x H1 => ∃ a xs, x = .ref a ∧ SqT K H1 a xs ∧ NewT H1 xs.reverse Q
theorem pe_revT {X : Cx} {te : TE} {k : Nat} {q1 q2 q3 : Pos} (he : PE X e te) : PE X (.Subscript e (.Slice none none (some (.UnaryOp .USub (.Constant (.int 1) k q1) q2)) q3) pos) (tRevT X.K te) := ⟨fun pins s σ H Q I h => by
  refine Subscript_ (thn (he.run pins s σ H _ I h) fun v s1 ⟨x, H1, I1, r1, a, xs, ex, hx, q⟩ => ?_)
  subst ex
  cases r1
  have part : PO X (some (.UnaryOp .USub (.Constant (.int 1) k q1) q2)) (tPart (tUn (rU fun i => .int (-i)) (tC (.int 1)))) := po_some (pe_un un_neg pe_int)
  refine wpAny_Slice ?_
  rw [evalPart_none]
  refine wpAny_pure ?_
  refine wpAny_pure ?_
  refine thn (part.run pins s1 σ H1 (fun o H4 => o = some (-1) ∧ H4 = H1) I1 ⟨1, rfl, -1, rfl, rfl, rfl⟩) fun vs s4 ⟨o, H4, I4, ps, eo, e4⟩ => ?_
  subst eo e4
  have I5 : Inv X pins σ H4 { s4 with heap := s4.heap.push { cls := .type "slice", data := .fields #[.none, .none, vs] } } := I4.kept (t' := s4.toks) fun b ob q => Heap.get?_push_of_some _ q
  obtain ⟨its, r, ht, hz⟩ := I5.tuple hx
  have hlen := r.length
  show wpAny (model X.prog X.w) X.A (subscriptTail e (.Slice none none (some (.UnaryOp .USub (.Constant (.int 1) k q1) q2)) q3) (.ref a) (.ref s4.heap.objs.size)) (EP X pins σ Q) X.xe { s4 with heap := s4.heap.push { cls := .type "slice", data := .fields #[.none, .none, vs] } }
  refine tail_any (ops := [.ref a, .ref s4.heap.objs.size]) ht.typeIs (PyProof.Rows.slot_tuple_getitem.lookup) ?_ (by with_unfolding_all rfl)
  refine rev_tuple ht (Heap.IsSliceOf.new _ .none .none vs) ps ?_ (by rw [List.size_toArray]; omega)
  exact ep_newT I5 r.reverse (by rw [List.length_reverse]; exact hz) q⟩
theorem de_revT {k : Nat} {q1 q2 q3 : Pos} (ha : DE G a S (.tuple ds) S1) : DE G (.Subscript a (.Slice none none (some (.UnaryOp .USub (.Constant (.int 1) k q1) q2)) q3) pos) S (.tuple ds.reverse) S1 := fun X ok =>
  PE_weak (pe_revT (ha X ok)) fun σ H Q ⟨B, hh, kk⟩ => ⟨B, hh, fun v H1 h1 r1 q => by
    cases q with
    | @tup p xs _ la rs => exact ⟨p, xs, rfl, la.sq, fun n ob hn hb => kk (.ref n) _ (h1.same (upd_keep hn)) (r1.trans (Rel.same (upd_keep hn))) (.tup (.inl ⟨h1.freeAv hn, xt_new hb⟩) (rs.rev.same (upd_keep hn)))⟩⟩
end
end Pw
namespace Pw
open PySem PySem.Spec L2
section
variable {κ κ' α β : Type} [DecidableEq κ] [DecidableEq κ']
def ofP (ps : List (κ × α)) : List (κ × α) := ps.foldl (fun d p => putG d p.1 p.2) []
theorem ofP_snoc {ps : List (κ × α)} {p : κ × α} : ofP (ps ++ [p]) = putG (ofP ps) p.1 p.2 := by
  unfold ofP
  rw [List.foldl_append]
  rfl
theorem putG_len (d : List (κ × α)) (k : κ) (v : α) : (putG d k v).length ≤ d.length + 1 := by
  unfold putG
  split
  · rw [List.length_map]; omega
  · rw [List.length_append]; exact Nat.le_refl _
theorem foldP_len : ∀ (ps d : List (κ × α)), (ps.foldl (fun d p => putG d p.1 p.2) d).length ≤ d.length + ps.length
  | [], d => Nat.le_refl _
  | p :: ps, d => by
    have h1 := foldP_len ps (putG d p.1 p.2)
    have h2 := putG_len d p.1 p.2
    show (ps.foldl _ (putG d p.1 p.2)).length ≤ d.length + (ps.length + 1)
    omega
theorem ofP_len (ps : List (κ × α)) : (ofP ps).length ≤ ps.length := by
  have := foldP_len ps []
  rw [List.length_nil, Nat.zero_add] at this
  exact this
theorem foldP_map {g : κ → κ'} {f : α → β} (hg : ∀ a b, g a = g b → a = b) : ∀ (ps d : List (κ × α)), (mapG g f ps).foldl (fun d p => putG d p.1 p.2) (mapG g f d) = mapG g f (ps.foldl (fun d p => putG d p.1 p.2) d)
  | [], d => rfl
  | p :: ps, d => by
    show (mapG g f ps).foldl _ (putG (mapG g f d) (g p.1) (f p.2)) = _
    rw [putG_map hg, foldP_map hg ps]
    rfl
theorem ofP_map {g : κ → κ'} {f : α → β} (hg : ∀ a b, g a = g b → a = b) (ps : List (κ × α)) : ofP (mapG g f ps) = mapG g f (ofP ps) := foldP_map hg ps []
end
theorem RepK.same' {κ : Type} {K : PySem.W.Frag} {A : AP} {H H' : Hp} {kvs : List (κ × V)} {ds : List (κ × PyData)} (h : RepK K A H kvs ds) (k : ∀ a o, H a = some o → H' a = some o) : RepK K A H' kvs ds := ⟨h.1, h.2.same k⟩
section
variable {α τ ρ β ι : Type} {G : Cxt} {S S' S1 S2 : List Sl} {iter tg c e elt kx vx : Expr} {ifs : List Expr} {pos p1 : Pos} {K : PySem.W.Frag} {B B' : AP} {σ σ' : L2.St} {H H' : Hp} {ds : List PyData} {v : V} {vs : List Nat} {d : PyData} {o : Ob} {k1 : Bool}
def Turn1D (G : Cxt) (kx vx : Expr) (ifs : List Expr) (vs : List Nat) (S St : List Sl) (h : β → Key × PyData) : Option β → Prop
  | none => ∃ Sm, DTs G ifs S false Sm ∧ wipeS Sm vs = St
  | some y => ∃ Sm S3 S4, DTs G ifs S true Sm ∧ DE G kx Sm (kD (h y).1) S3 ∧ DE G vx S3 (h y).2 S4 ∧ wipeS S4 vs = St
theorem dc_ok {scope : Scope} {own : List (Str × Nat)} {tab : List (Str × Nat)} {loc : List Str} {ix : List Nat} {f : α → PyData} {h : β → Key × PyData} {xs : List α} {ys : List β} {t0 t1 : τ} {step : τ → α → Option (Option β × τ)} {slots : τ → List Sl} {tgt : τ → α → List Sl}
    (hc : (G.blk scope tab loc).chk = true) (hb : blkC G.N G.sc scope own = true) (hz : DZ G tg iter S (xs.map f) (slots t0)) (hn : noOwn (slots t0) (own.map (·.2)) = true) (hv : ∀ t, ∀ i ∈ own.map (·.2), (slots t)[i]? = (slots t0)[i]?) (hl : ∀ t, (slots t).length = (slots t0).length)
    (hix : ∀ i ∈ ix, i ∈ own.map (·.2)) (hg : ∀ t x, x ∈ xs → DG (G.blk scope tab loc) tg ix (wipeS (slots t) (own.map (·.2))) (f x) (tgt t x))
    (ht : ∀ t x o t', x ∈ xs → step t x = some (o, t') → Turn1D (G.blk scope tab loc) kx vx ifs (own.map (·.2)) (tgt t x) (wipeS (slots t') (own.map (·.2))) h o)
    (he : compM step t0 xs = some (ys, t1)) (hsf : ∀ env x, foldedSetIterable iter env x = Pure.pure x) (X : Cx) (ok : G.Ok X) : PE X (.DictComp kx vx [⟨tg, iter, ifs, 0⟩] scope pos) (tF X.K S (.dk (ofP (ys.map h))) (slots t1)) := by
  have hblk : BlkOk X.N X.env.scope scope own := by
    rw [ok.N, ok.sc]
    exact blkOk_by hb
  have okb := fun s H C cl fp => ok.blk hc s H C cl fp
  generalize hvs : own.map (·.2) = vs at hn hv hix hg ht
  refine PE_weak (pe_dc (wi := tItz X.K S (xs.map f) (slots t0)) (g := fun v σ H Q => ∃ i : List Sl × PyData × List Sl, DG (G.blk scope tab loc) tg ix i.1 i.2.1 i.2.2 ∧ tGt X.K ix i.1 i.2.1 i.2.2 v σ H Q) (tt := fun σ H Q => ∃ i : List Sl × Bool × List Sl, DTs (G.blk scope tab loc) ifs i.1 i.2.1 i.2.2 ∧ tT X.K i.1 i.2.1 i.2.2 σ H Q)
    (tk := fun σ H Q => ∃ i : List Sl × PyData × List Sl, DE (G.blk scope tab loc) kx i.1 i.2.1 i.2.2 ∧ tE X.K i.1 i.2.1 i.2.2 σ H Q) (tv := fun σ H Q => ∃ i : List Sl × PyData × List Sl, DE (G.blk scope tab loc) vx i.1 i.2.1 i.2.2 ∧ tE X.K i.1 i.2.1 i.2.2 σ H Q) ok.calm ok.nd (hz X ok) hblk
    (fun s H C cl fp => PG_ex (p := fun i : List Sl × PyData × List Sl => DG (G.blk scope tab loc) tg ix i.1 i.2.1 i.2.2) fun i hp => hp _ (okb s H C cl fp))
    (fun s H C cl fp => PTs_ex (p := fun i : List Sl × Bool × List Sl => DTs (G.blk scope tab loc) ifs i.1 i.2.1 i.2.2) fun i hp => hp _ (okb s H C cl fp))
    (fun s H C cl fp => PE_ex (p := fun i : List Sl × PyData × List Sl => DE (G.blk scope tab loc) kx i.1 i.2.1 i.2.2) fun i hp => hp _ (okb s H C cl fp)) (fun s H C cl fp => PE_ex (p := fun i : List Sl × PyData × List Sl => DE (G.blk scope tab loc) vx i.1 i.2.1 i.2.2) fun i hp => hp _ (okb s H C cl fp)) (hsf _)) fun σ H Q ⟨B, hh, k⟩ => ?_
  rw [hvs]
  refine ⟨B, hh, fun J H1 h1 r1 jk zl D hD => ?_⟩
  have n0 : ¬ OwnA (wipeS (slots t0) vs) (L2.wipe σ vs) D := fun z => h1.free hD (own_wipe1 z)
  refine ⟨fun i m H => m = xs.length - i ∧ i ≤ xs.length ∧ ∃ t zs rest, compM step t (xs.drop i) = some (rest, t1) ∧ zs ++ rest = ys ∧ zs.length ≤ i ∧ Holds X.K (Bp B D) (wipeS (slots t) vs) (L2.wipe σ vs) H ∧ Rel (wipeS (slots t0) vs) (L2.wipe σ vs) H1 (wipeS (slots t) vs) (L2.wipe σ vs) H ∧
    ¬ OwnA (wipeS (slots t) vs) (L2.wipe σ vs) D ∧ ∃ acc, H D = some (.dK acc) ∧ RepK X.K (Av (wipeS (slots t) vs) (L2.wipe σ vs) (Bp B D)) H acc (ofP (zs.map h)),
    ⟨_, rfl, Nat.zero_le _, t0, [], ys, by rw [List.drop_zero]; exact he, rfl, Nat.le_refl _, h1.wipe.newB hD trivial, Rel.same (upd_keep hD), n0, [], upd_same, repK_nil⟩, ?_⟩
  rintro i m H2 ⟨rfl, hi, t, zs, rest, hcm, hzs, hzl, hh2, r2, nD, acc, eD, ra⟩
  have keep2 : ∀ a o, H1 a = some o → ¬ OwnA (slots t0) σ a → H2 a = some o := fun a o e n => r2.keep a o e fun z => n ((own_wipe hn).mp z)
  obtain ⟨j1, j2⟩ := jk H2 keep2
  by_cases hlt : i < xs.length
  · have ed : xs.drop i = xs[i] :: xs.drop (i + 1) := List.drop_eq_getElem_cons hlt
    rw [ed] at hcm
    have hx : xs[i] ∈ xs := List.getElem_mem hlt
    obtain ⟨go, yl⟩ := j1 i (f xs[i]) (by rw [List.getElem?_map, List.getElem?_eq_getElem hlt]; rfl)
    unfold compM at hcm
    cases hst : step t xs[i] with
    | none => rw [hst] at hcm; cases hcm
    | some ot =>
      obtain ⟨o, t'⟩ := ot
      rw [hst] at hcm
      have hcm : (match compM step t' (xs.drop (i + 1)) with
        | none => none
        | some (ys, t2) => some (consO o ys, t2)) = some (rest, t1) := hcm
      cases hc2 : compM step t' (xs.drop (i + 1)) with
      | none => rw [hc2] at hcm; cases hcm
      | some rt =>
        obtain ⟨rest', t2⟩ := rt
        rw [hc2] at hcm
        have hcm : some (consO o rest', t2) = some (rest, t1) := hcm
        injection hcm with hcm
        have e1 := congrArg Prod.fst hcm
        have e2 := congrArg Prod.snd hcm
        dsimp only at e1 e2
        subst e2
        refine .inr ⟨go, fun H' => ∃ zs', zs' ++ rest' = ys ∧ zs'.length ≤ i + 1 ∧ Holds X.K (Bp B D) (wipeS (slots t') vs) (L2.wipe σ vs) H' ∧ Rel (wipeS (slots t0) vs) (L2.wipe σ vs) H1 (wipeS (slots t') vs) (L2.wipe σ vs) H' ∧
          ¬ OwnA (wipeS (slots t') vs) (L2.wipe σ vs) D ∧ ∃ acc, H' D = some (.dK acc) ∧ RepK X.K (Av (wipeS (slots t') vs) (L2.wipe σ vs) (Bp B D)) H' acc (ofP (zs'.map h)), fun H' ⟨zs', q1, q2, q3, q4, q5, q6⟩ => ⟨_, by omega, rfl, hlt, t', zs', rest', hc2, q1, q2, q3, q4, q5, q6⟩, fun x H3 hy => ?_⟩
        obtain ⟨ks, rq⟩ := yl x H3 hy
        have hh3 := hh2.same ks
        have r3 := r2.trans (Rel.same (S := wipeS (slots t) vs) (σ := L2.wipe σ vs) ks)
        have item : Rep X.K (Av (wipeS (slots t) vs) (L2.wipe σ vs) (Bp B D)) H3 x (f xs[i]) := by
          rcases rq with rq | ⟨pq, rq⟩
          · have cc : ∀ a o, ¬ Av (slots t0) σ B a → H1 a = some o → ¬ Av (wipeS (slots t) vs) (L2.wipe σ vs) (Bp B D) a := fun a o n e z => by
              rcases z with z | z | z
              · rcases r3.own a z with w | w
                · exact n (.inl ((own_wipe hn).mp w))
                · rw [e] at w; cases w
              · exact n (.inr z)
              · rw [z, hD] at e; cases e
            refine rq.car ⟨fun a xs n q => ?_, fun a xs n q => ?_⟩ <;> (
              obtain ⟨o, e⟩ := (by first | exact rd_some q | exact xt_some q)
              exact ⟨cc a o n e, by first | exact rd_keep (fun o e => ks a o (keep2 a o e fun z => n (.inl z))) q | exact xt_keep (fun o e => ks a o (keep2 a o e fun z => n (.inl z))) q⟩)
          · exact rq.carP (ctup hh3) pq
        have eD3 : H3 D = some (.dK acc) := ks D _ eD
        refine ⟨(wipeS (slots t) vs, f xs[i], tgt t xs[i]), hg t xs[i] hx, Bp B D, hh3, item, fun σ2 H4 hh4 r4 u4 => ?_⟩
        have lσ : σ2.length = (L2.wipe σ vs).length := by rw [← hh4.len, ← hh3.len, r4.len]
        have ew : L2.wipe σ2 vs = L2.wipe σ vs := (wipe_eq lσ fun i hi => u4 i fun z => hi (hix i z)).trans wipe_wipe
        refine ⟨ew, ?_⟩
        have tr := ht t xs[i] o t' hx hst
        -- what holds behind the turn
        have fin : ∀ {S3 : List Sl} {H5 : Hp}, wipeS S3 vs = wipeS (slots t') vs → Holds X.K (Bp B D) S3 σ2 H5 → Rel (wipeS (slots t) vs) (L2.wipe σ vs) H3 S3 σ2 H5 → Holds X.K (Bp B D) (wipeS (slots t') vs) (L2.wipe σ vs) H5 ∧ Rel (wipeS (slots t0) vs) (L2.wipe σ vs) H1 (wipeS (slots t') vs) (L2.wipe σ vs) H5 ∧
            ¬ OwnA (wipeS (slots t') vs) (L2.wipe σ vs) D ∧ H5 D = some (.dK acc) ∧ RepK X.K (Av (wipeS (slots t') vs) (L2.wipe σ vs) (Bp B D)) H5 acc (ofP (zs.map h)) ∧ ¬ OwnA S3 σ2 D := fun {S3 H5} eS hh5 r5 => by
          have q1 := hh5.wipe (vs := vs)
          have q2 := r5.wipe (vs := vs) noOwn_wipe
          rw [eS, ew] at q1 q2
          rw [wipeS_wipeS, wipe_wipe] at q2
          have nS : ¬ OwnA S3 σ2 D := (r5.ownKeep nD eD3).1
          refine ⟨q1, r3.trans q2, (q2.ownKeep nD eD3).1, r5.keep D _ eD3 nD, ?_, nS⟩
          exact (ra.same' ks).car q2.car
        cases o with
        | none =>
          obtain ⟨Sm, t1, eS⟩ := tr
          refine ⟨(tgt t xs[i], false, Sm), t1, Bp B D, hh4, fun H5 hh5 r5 => tT_ite (fun z => by cases z) fun _ => ?_⟩
          obtain ⟨f1, f2, f3, f4, f5, _⟩ := fin eS hh5 (r4.trans r5)
          exact ⟨zs, by rw [← hzs, ← e1]; rfl, by omega, f1, f2, f3, acc, f4, f5⟩
        | some y =>
          obtain ⟨Sm, S3, S4, t1, t2, t3, eS⟩ := tr
          refine ⟨(tgt t xs[i], true, Sm), t1, Bp B D, hh4, fun H5 hh5 r5 => tT_ite (fun _ => ?_) fun z => by cases z⟩
          refine ⟨(Sm, kD (h y).1, S3), t2, Bp B D, hh5, fun v H6 hh6 r6 q6 => ⟨(S3, (h y).2, S4), t3, Bp B D, hh6, fun v2 H7 hh7 r7 q7 => ?_⟩⟩
          obtain ⟨f1, f2, f3, f4, f5, f6⟩ := fin eS hh7 (((r4.trans r5).trans r6).trans r7)
          have la : acc.length < sizeLine := by
            have h1 := repK_len ra
            have h2 := ofP_len (zs.map h)
            rw [List.length_map] at zl h2
            omega
          refine ⟨acc, (h y).1, rep_key (q6.car r7.car), f4, la, zs ++ [y], by rw [List.append_assoc, ← hzs, ← e1]; rfl, by rw [List.length_append]; simp; omega, ?_, f2.updF hD, f3, putK acc (h y).1 v2, upd_same, ?_⟩
          · exact f1.updB f3 trivial fun j s e hl => f2.lentP h1.wipe hD e hl
          · have cD : Car (Av (wipeS (slots t') vs) (L2.wipe σ vs) (Bp B D)) (Av (wipeS (slots t') vs) (L2.wipe σ vs) (Bp B D)) H7 (upd H7 D (.dK (putK acc (h y).1 v2))) :=
              ⟨fun a xs n q => ⟨n, rd_keep (fun o e => by rw [upd_ne fun z => n (.inr (.inr z))]; exact e) q⟩, fun a xs n q => ⟨n, xt_keep (fun o e => by rw [upd_ne fun z => n (.inr (.inr z))]; exact e) q⟩⟩
            have qv : Rep X.K (Av (wipeS (slots t') vs) (L2.wipe σ vs) (Bp B D)) H7 v2 (h y).2 := q7.car (Car.imp fun a z => z.imp (fun z => by
              rw [← eS, ← ew] at z
              exact own_wipe1 z) id)
            rw [List.map_append]
            show RepK _ _ _ _ (ofP (zs.map h ++ [h y]))
            rw [ofP_snoc]
            exact (repK_put f5 qv).car cD
  · have e : i = xs.length := by omega
    subst e
    rw [List.drop_length] at hcm
    have hcm : some (([] : List β), t) = some (rest, t1) := hcm
    injection hcm with hcm
    have e1 := congrArg Prod.fst hcm
    have e2 := congrArg Prod.snd hcm
    dsimp only at e1 e2
    subst e1 e2
    rw [List.append_nil] at hzs
    subst hzs
    obtain ⟨a1, a2, a3⟩ := unwipe h1 (B' := Bp B D) (fun a z => z.imp id fun z => by rw [z]; exact hD) hn (hv t) (hl t) hh2 r2
    exact .inl ⟨j2 _ (by rw [List.length_map]; exact Nat.le_refl _), k D H2 (r1.free hD) (fun z => nD (a3 D z)) a1 (r1.trans a2) ⟨acc, eD, ra.car (Car.imp fun a z => z.imp (a3 a) id)⟩⟩
end
end Pw
namespace Pw
open PySem PySem.Spec L2

/-! ### isinstance -/
def tyD : PyData → String
  | .none => "NoneType"
  | .bool _ => "bool"
  | .int _ => "int"
  | .str _ => "str"
  | .list _ => "list"
  | .tuple _ => "tuple"
  | .dict _ => "dict"
section
variable {G : Cxt} {S S1 S2 S3 : List Sl} {a b c e f tg : Expr} {es : List Expr} {d d1 d2 : PyData} {ds : List PyData} {pos p1 p2 p3 : Pos} {K : PySem.W.Frag} {A B : AP} {σ σ' : L2.St} {H H' : Hp} {p : Addr} {v : V}
theorem rep_ty (h : Rep K A H v d) : TyX K H v (.type (tyD d)) := by
  cases h with
  | non => exact .base .non
  | bl b => exact .base (.bl b)
  | int i => exact .base (.int i)
  | str x => exact .base (.str x)
  | lst l _ =>
    rcases l.sq with (h | ⟨o, h⟩) | ⟨o, its, n, hk, hc, _⟩
    · exact .base (.lst h)
    · exact .base (.frz h)
    · exact .kList hk hc
  | tup l _ =>
    rcases l.sq with (h | ⟨o, h⟩) | ⟨o, its, n, hk, hc, _⟩
    · exact .base (.tup h)
    · exact .fTuple h
    · exact .kTuple hk hc
theorem bo_isinstance : bootBuiltins "isinstance" = some (Value.builtin "isinstance") := by decide +kernel
theorem bo_bool : bootBuiltins "bool" = some (Value.type "bool") := by decide +kernel
theorem de_isi {T : Str} {tn : String} {k : Bool} (hx : G.blt.elem ("isinstance" : Str) = true) (hT : G.blt.elem T = true) (hv : bootBuiltins T = some (.type tn)) (h : DE G e S d S1) (hk : kitB (tyD d) tn = some k)
    (hs : ∀ env, starEach [e, .Name T p2] env = (false, eval e env) :: starEach [.Name T p2] env := by intro _; rfl) (hs2 : ∀ env, starEach [.Name T p2] env = (false, eval (.Name T p2) env) :: starEach [] env := by intro _; rfl) (hp : ∀ env, (backTo pos (starEach [.Name T p2] env)).any (·.1) = false := by intro _; rfl) :
    DE G (.Call (.Name "isinstance" p1) [e, .Name T p2] [] pos) S (.bool k) S1 := fun X ok => by
  obtain ⟨hg, hm, _, _⟩ := ok.gl (elem_mem hx)
  obtain ⟨hg2, hm2, hd2, hn2⟩ := ok.gl (elem_mem hT)
  refine PE_weak (pe_callB call_isi hg hm bo_isinstance (pa_cons (h X ok) (pa_cons (pe_bltn (v := .ty tn) hg2 hm2 hv rfl hn2 hd2) pa_nil (hs2 _)) (hs _)) (by decide) (by decide) (hs _) (hp _)) fun σ H Q ⟨B, hh, kk⟩ => ⟨B, hh, fun v H1 h1 r1 q1 => ?_⟩
  exact ⟨v, .ty tn, _, _, k, rfl, .ty tn, rep_ty q1, kit_ty hk, kk _ H1 h1 r1 (.bl _)⟩
end

/-! ### data that are the same -/
mutual
def sameD : PyData → PyData → Bool
  | .bool a, .bool b => a == b
  | .int a, .int b => a == b
  | .str a, .str b => a == b
  | .none, .none => true
  | .tuple xs, .tuple ys => sameAll xs ys
  | _, _ => false
def sameAll : List PyData → List PyData → Bool
  | [], [] => true
  | x :: xs, y :: ys => sameD x y && sameAll xs ys
  | _, _ => false
end
theorem sameAll_len : ∀ {xs ys : List PyData}, sameAll xs ys = true → xs.length = ys.length
  | [], [], _ => rfl
  | x :: xs, y :: ys, h => by
    unfold sameAll at h
    rw [Bool.and_eq_true] at h
    rw [List.length_cons, List.length_cons, sameAll_len h.2]
  | [], _ :: _, h => by simp [sameAll] at h
  | _ :: _, [], h => by simp [sameAll] at h
end Pw
namespace Pw
open PySem PySem.Spec L2

/-! ### types of data -/
structure T1 (α : Type) where
  a : α
  deriving DecidableEq
structure T2 (α β : Type) where
  a : α
  b : β
  deriving DecidableEq
structure T3 (α β γ : Type) where
  a : α
  b : β
  c : γ
  deriving DecidableEq
structure T4 (α β γ δ : Type) where
  a : α
  b : β
  c : γ
  d : δ
  deriving DecidableEq
structure T5 (α β γ δ ε : Type) where
  a : α
  b : β
  c : γ
  d : δ
  e : ε
  deriving DecidableEq
structure T6 (α β γ δ ε ζ : Type) where
  a : α
  b : β
  c : γ
  d : δ
  e : ε
  f : ζ
  deriving DecidableEq
class Enc (α : Type) [DecidableEq α] where
  enc : α → PyData
  dp : Nat
  plain : ∀ a, (enc a).plain = true
  depth : ∀ a, (enc a).depth ≤ dp
  pure : ∀ a, pur (enc a) = true
  eqv : ∀ a b, PyData.eqv (enc a) (enc b) = decide (a = b)
  same : ∀ a b, sameD (enc a) (enc b) = decide (a = b)
/-- never None -/
class EncN (α : Type) [DecidableEq α] [Enc α] : Prop where
  nn : ∀ a : α, Enc.enc a ≠ .none
abbrev en {α : Type} [DecidableEq α] [Enc α] (a : α) : PyData := Enc.enc a
theorem beq_dec {α : Type} [BEq α] [LawfulBEq α] [d : DecidableEq α] {a b : α} : (a == b) = decide (a = b) := by
  by_cases h : a = b <;> simp [h]
theorem and_dec {p q r : Prop} [Decidable p] [Decidable q] [Decidable r] (h : r ↔ p ∧ q) : (decide p && decide q) = decide r := by
  by_cases hp : p <;> by_cases hq : q <;> simp [h, hp, hq]
instance : Enc Int where
  enc i := .int i
  dp := 0
  plain _ := rfl
  depth _ := Nat.le_refl _
  pure _ := rfl
  eqv a b := by unfold PyData.eqv; exact beq_dec
  same a b := by unfold sameD; exact beq_dec
instance : Enc Bool where
  enc i := .bool i
  dp := 0
  plain _ := rfl
  depth _ := Nat.le_refl _
  pure _ := rfl
  eqv a b := by unfold PyData.eqv; exact beq_dec
  same a b := by unfold sameD; exact beq_dec
instance : Enc Str where
  enc i := .str i
  dp := 0
  plain _ := rfl
  depth _ := Nat.le_refl _
  pure _ := rfl
  eqv a b := by unfold PyData.eqv; exact beq_dec
  same a b := by unfold sameD; exact beq_dec
instance : EncN Int := ⟨fun _ h => by cases h⟩
instance : EncN Bool := ⟨fun _ h => by cases h⟩
instance : EncN Str := ⟨fun _ h => by cases h⟩
instance : Enc Unit where
  enc _ := .none
  dp := 0
  plain _ := rfl
  depth _ := Nat.le_refl _
  pure _ := rfl
  eqv a b := by cases a; cases b; rfl
  same a b := by cases a; cases b; rfl
def encO {α : Type} (f : α → PyData) : Option α → PyData
  | none => .none
  | some a => f a
theorem eqv_nl {d : PyData} (h : d ≠ .none) : PyData.eqv d .none = false ∧ PyData.eqv .none d = false := by
  cases d <;> first | exact absurd rfl h | exact ⟨rfl, rfl⟩
theorem same_nl {d : PyData} (h : d ≠ .none) : sameD d .none = false ∧ sameD .none d = false := by
  cases d <;> first | exact absurd rfl h | (constructor <;> simp [sameD])
instance {α : Type} [DecidableEq α] [Enc α] [EncN α] : Enc (Option α) where
  enc := encO Enc.enc
  dp := Enc.dp α
  plain a := by cases a with
    | none => rfl
    | some a => exact Enc.plain a
  depth a := by cases a with
    | none => exact Nat.zero_le _
    | some a => exact Enc.depth a
  pure a := by cases a with
    | none => rfl
    | some a => exact Enc.pure a
  eqv a b := by
    cases a with
    | none => cases b with
      | none => rfl
      | some b => exact (eqv_nl (EncN.nn b)).2.trans (by simp)
    | some a => cases b with
      | none => exact (eqv_nl (EncN.nn a)).1.trans (by simp)
      | some b => exact (Enc.eqv a b).trans (by simp)
  same a b := by
    cases a with
    | none => cases b with
      | none => simp [encO, sameD]
      | some b => exact (same_nl (EncN.nn b)).2.trans (by simp)
    | some a => cases b with
      | none => exact (same_nl (EncN.nn a)).1.trans (by simp)
      | some b => exact (Enc.same a b).trans (by simp)
theorem plainAll_map {α : Type} [DecidableEq α] [Enc α] : ∀ xs : List α, PyData.plainAll (xs.map Enc.enc) = true
  | [] => rfl
  | x :: xs => by
    rw [List.map_cons]
    unfold PyData.plainAll
    rw [Enc.plain, plainAll_map xs]; rfl
theorem depthAll_map {α : Type} [DecidableEq α] [Enc α] : ∀ xs : List α, PyData.depthAll (xs.map Enc.enc) ≤ Enc.dp α
  | [] => Nat.zero_le _
  | x :: xs => by
    rw [List.map_cons]
    unfold PyData.depthAll
    exact Nat.max_le.mpr ⟨Enc.depth x, depthAll_map xs⟩
theorem purs_map {α : Type} [DecidableEq α] [Enc α] : ∀ xs : List α, purs (xs.map Enc.enc) = true
  | [] => rfl
  | x :: xs => by rw [List.map_cons, purs_cons, Enc.pure, purs_map xs]; rfl
theorem eqvAll_map {α : Type} [DecidableEq α] [Enc α] : ∀ xs ys : List α, PyData.eqvAll (xs.map Enc.enc) (ys.map Enc.enc) = decide (xs = ys)
  | [], [] => rfl
  | [], _ :: _ => rfl
  | _ :: _, [] => rfl
  | x :: xs, y :: ys => by
    rw [List.map_cons, List.map_cons]
    unfold PyData.eqvAll
    rw [Enc.eqv, eqvAll_map xs ys]
    exact and_dec (by rw [List.cons.injEq])
theorem sameAll_map {α : Type} [DecidableEq α] [Enc α] : ∀ xs ys : List α, sameAll (xs.map Enc.enc) (ys.map Enc.enc) = decide (xs = ys)
  | [], [] => by simp [sameAll]
  | [], _ :: _ => by simp [sameAll]
  | _ :: _, [] => by simp [sameAll]
  | x :: xs, y :: ys => by
    rw [List.map_cons, List.map_cons]
    unfold sameAll
    rw [Enc.same, sameAll_map xs ys]
    exact and_dec (by rw [List.cons.injEq])
/-- tuples of any length -/
instance {α : Type} [DecidableEq α] [Enc α] : Enc (List α) where
  enc xs := .tuple (xs.map Enc.enc)
  dp := Enc.dp α + 1
  plain xs := plainAll_map xs
  depth xs := Nat.succ_le_succ (depthAll_map xs)
  pure xs := purs_map xs
  eqv xs ys := by unfold PyData.eqv; exact eqvAll_map xs ys
  same xs ys := by unfold sameD; exact sameAll_map xs ys
instance {α : Type} [DecidableEq α] [Enc α] : EncN (List α) := ⟨fun _ h => by cases h⟩
theorem dmax {a b c : Nat} (h : a ≤ b) (h2 : b ≤ c) : a ≤ c := Nat.le_trans h h2
section
variable {α β γ δ ε ζ : Type} [DecidableEq α] [DecidableEq β] [DecidableEq γ] [DecidableEq δ] [DecidableEq ε] [DecidableEq ζ] [Enc α] [Enc β] [Enc γ] [Enc δ] [Enc ε] [Enc ζ]
theorem eqv_cons {xs ys : List PyData} {x y : PyData} {p q r : Prop} [Decidable p] [Decidable q] [Decidable r] (h1 : PyData.eqv x y = decide p) (h2 : PyData.eqvAll xs ys = decide q) (h : r ↔ p ∧ q) : PyData.eqvAll (x :: xs) (y :: ys) = decide r := by
  unfold PyData.eqvAll
  rw [h1, h2]
  exact and_dec h
theorem same_cons {xs ys : List PyData} {x y : PyData} {p q r : Prop} [Decidable p] [Decidable q] [Decidable r] (h1 : sameD x y = decide p) (h2 : sameAll xs ys = decide q) (h : r ↔ p ∧ q) : sameAll (x :: xs) (y :: ys) = decide r := by
  unfold sameAll
  rw [h1, h2]
  exact and_dec h
theorem eqv_end : PyData.eqvAll [] [] = decide True := rfl
theorem same_end : sameAll [] [] = decide True := by simp [sameAll]
theorem depth_cons {x : PyData} {xs : List PyData} {n : Nat} (h : x.depth ≤ n) (t : PyData.depthAll xs ≤ n) : PyData.depthAll (x :: xs) ≤ n := Nat.max_le.mpr ⟨h, t⟩
theorem depth_nil {n : Nat} : PyData.depthAll [] ≤ n := Nat.zero_le _
instance : Enc (T1 α) where
  enc x := .tuple [Enc.enc x.a]
  dp := Enc.dp α + 1
  plain x := by simp only [PyData.plain, PyData.plainAll, Enc.plain, Bool.and_self]
  depth x := Nat.succ_le_succ (depth_cons (Enc.depth _) depth_nil)
  pure x := by show purs [_] = true; simp only [purs_cons, Enc.pure, Bool.true_and]; rfl
  eqv x y := by
    obtain ⟨a⟩ := x; obtain ⟨a'⟩ := y
    unfold PyData.eqv
    exact eqv_cons (Enc.eqv _ _) eqv_end (by simp)
  same x y := by
    obtain ⟨a⟩ := x; obtain ⟨a'⟩ := y
    unfold sameD
    exact same_cons (Enc.same _ _) same_end (by simp)
instance : Enc (T2 α β) where
  enc x := .tuple [Enc.enc x.a, Enc.enc x.b]
  dp := max (Enc.dp α) (Enc.dp β) + 1
  plain x := by simp only [PyData.plain, PyData.plainAll, Enc.plain, Bool.and_self]
  depth x := Nat.succ_le_succ (depth_cons (dmax (Enc.depth _) (by omega)) (depth_cons (dmax (Enc.depth _) (by omega)) depth_nil))
  pure x := by show purs [_, _] = true; simp only [purs_cons, Enc.pure, Bool.true_and]; rfl
  eqv x y := by
    obtain ⟨a, b⟩ := x; obtain ⟨a', b'⟩ := y
    unfold PyData.eqv
    exact eqv_cons (q := b = b') (Enc.eqv _ _) (eqv_cons (Enc.eqv _ _) eqv_end (by simp)) (by simp)
  same x y := by
    obtain ⟨a, b⟩ := x; obtain ⟨a', b'⟩ := y
    unfold sameD
    exact same_cons (q := b = b') (Enc.same _ _) (same_cons (Enc.same _ _) same_end (by simp)) (by simp)
instance : Enc (T3 α β γ) where
  enc x := .tuple [Enc.enc x.a, Enc.enc x.b, Enc.enc x.c]
  dp := max (Enc.dp α) (max (Enc.dp β) (Enc.dp γ)) + 1
  plain x := by simp only [PyData.plain, PyData.plainAll, Enc.plain, Bool.and_self]
  depth x := Nat.succ_le_succ (depth_cons (dmax (Enc.depth _) (by omega)) (depth_cons (dmax (Enc.depth _) (by omega)) (depth_cons (dmax (Enc.depth _) (by omega)) depth_nil)))
  pure x := by show purs [_, _, _] = true; simp only [purs_cons, Enc.pure, Bool.true_and]; rfl
  eqv x y := by
    obtain ⟨a, b, c⟩ := x; obtain ⟨a', b', c'⟩ := y
    unfold PyData.eqv
    exact eqv_cons (q := b = b' ∧ c = c') (Enc.eqv _ _) (eqv_cons (q := c = c') (Enc.eqv _ _) (eqv_cons (Enc.eqv _ _) eqv_end (by simp)) (by simp)) (by simp)
  same x y := by
    obtain ⟨a, b, c⟩ := x; obtain ⟨a', b', c'⟩ := y
    unfold sameD
    exact same_cons (q := b = b' ∧ c = c') (Enc.same _ _) (same_cons (q := c = c') (Enc.same _ _) (same_cons (Enc.same _ _) same_end (by simp)) (by simp)) (by simp)
instance : Enc (T4 α β γ δ) where
  enc x := .tuple [Enc.enc x.a, Enc.enc x.b, Enc.enc x.c, Enc.enc x.d]
  dp := max (Enc.dp α) (max (Enc.dp β) (max (Enc.dp γ) (Enc.dp δ))) + 1
  plain x := by simp only [PyData.plain, PyData.plainAll, Enc.plain, Bool.and_self]
  depth x := Nat.succ_le_succ (depth_cons (dmax (Enc.depth _) (by omega)) (depth_cons (dmax (Enc.depth _) (by omega)) (depth_cons (dmax (Enc.depth _) (by omega)) (depth_cons (dmax (Enc.depth _) (by omega)) depth_nil))))
  pure x := by show purs [_, _, _, _] = true; simp only [purs_cons, Enc.pure, Bool.true_and]; rfl
  eqv x y := by
    obtain ⟨a, b, c, d⟩ := x; obtain ⟨a', b', c', d'⟩ := y
    unfold PyData.eqv
    exact eqv_cons (q := b = b' ∧ c = c' ∧ d = d') (Enc.eqv _ _) (eqv_cons (q := c = c' ∧ d = d') (Enc.eqv _ _) (eqv_cons (q := d = d') (Enc.eqv _ _) (eqv_cons (Enc.eqv _ _) eqv_end (by simp)) (by simp)) (by simp)) (by simp)
  same x y := by
    obtain ⟨a, b, c, d⟩ := x; obtain ⟨a', b', c', d'⟩ := y
    unfold sameD
    exact same_cons (q := b = b' ∧ c = c' ∧ d = d') (Enc.same _ _) (same_cons (q := c = c' ∧ d = d') (Enc.same _ _) (same_cons (q := d = d') (Enc.same _ _) (same_cons (Enc.same _ _) same_end (by simp)) (by simp)) (by simp)) (by simp)
instance : Enc (T5 α β γ δ ε) where
  enc x := .tuple [Enc.enc x.a, Enc.enc x.b, Enc.enc x.c, Enc.enc x.d, Enc.enc x.e]
  dp := max (Enc.dp α) (max (Enc.dp β) (max (Enc.dp γ) (max (Enc.dp δ) (Enc.dp ε)))) + 1
  plain x := by simp only [PyData.plain, PyData.plainAll, Enc.plain, Bool.and_self]
  depth x := Nat.succ_le_succ (depth_cons (dmax (Enc.depth _) (by omega)) (depth_cons (dmax (Enc.depth _) (by omega)) (depth_cons (dmax (Enc.depth _) (by omega)) (depth_cons (dmax (Enc.depth _) (by omega)) (depth_cons (dmax (Enc.depth _) (by omega)) depth_nil)))))
  pure x := by show purs [_, _, _, _, _] = true; simp only [purs_cons, Enc.pure, Bool.true_and]; rfl
  eqv x y := by
    obtain ⟨a, b, c, d, e⟩ := x; obtain ⟨a', b', c', d', e'⟩ := y
    unfold PyData.eqv
    exact eqv_cons (q := b = b' ∧ c = c' ∧ d = d' ∧ e = e') (Enc.eqv _ _) (eqv_cons (q := c = c' ∧ d = d' ∧ e = e') (Enc.eqv _ _) (eqv_cons (q := d = d' ∧ e = e') (Enc.eqv _ _) (eqv_cons (q := e = e') (Enc.eqv _ _) (eqv_cons (Enc.eqv _ _) eqv_end (by simp)) (by simp)) (by simp)) (by simp)) (by simp)
  same x y := by
    obtain ⟨a, b, c, d, e⟩ := x; obtain ⟨a', b', c', d', e'⟩ := y
    unfold sameD
    exact same_cons (q := b = b' ∧ c = c' ∧ d = d' ∧ e = e') (Enc.same _ _) (same_cons (q := c = c' ∧ d = d' ∧ e = e') (Enc.same _ _) (same_cons (q := d = d' ∧ e = e') (Enc.same _ _) (same_cons (q := e = e') (Enc.same _ _) (same_cons (Enc.same _ _) same_end (by simp)) (by simp)) (by simp)) (by simp)) (by simp)
instance : EncN (T1 α) := ⟨fun _ h => by cases h⟩
instance : EncN (T2 α β) := ⟨fun _ h => by cases h⟩
instance : EncN (T3 α β γ) := ⟨fun _ h => by cases h⟩
instance : EncN (T4 α β γ δ) := ⟨fun _ h => by cases h⟩
instance : EncN (T5 α β γ δ ε) := ⟨fun _ h => by cases h⟩
end
end Pw
namespace Pw
open PySem PySem.Spec L2

/-! ### partial values -/
theorem bnd {α β : Type} {o : Option α} {f : α → Option β} {r : β} (h : o.bind f = some r) : ∃ x, o = some x ∧ f x = some r := Option.bind_eq_some_iff.mp h
theorem ite_t {α : Type} {c : Bool} {x y : Option α} {r : α} (h : (if c = true then x else y) = some r) (z : c = true) : x = some r := by rw [if_pos z] at h; exact h
theorem ite_f {α : Type} {c : Bool} {x y : Option α} {r : α} (h : (if c = true then x else y) = some r) (z : c = false) : y = some r := by rw [if_neg (by rw [z]; exact Bool.false_ne_true)] at h; exact h
theorem inj_s {α : Type} {x y : α} (h : some x = some y) : y = x := (Option.some.inj h).symm
theorem ne_t {c : Bool} (h : ¬ c = true) : c = false := Bool.eq_false_iff.mpr h
/-- limits: of lengths, of factors, of divisors -/
def chkN (n : Nat) : Option Unit := if n < 16777216 then some () else none
def chkI (n : Int) : Option Unit := if n < 16777216 then some () else none
def chkP (j : Int) : Option Unit := if 0 < j then some () else none
def chkD (j : Int) : Option Unit := if 0 < j ∧ j < 1073741824 then some () else none
def chkM (i j : Int) : Option Unit := if (-(2 ^ 64) < i ∧ i < 2 ^ 64) ∨ (-(2 ^ 64) < j ∧ j < 2 ^ 64) then some () else none
theorem of_ite {p : Prop} [Decidable p] {u : Unit} (h : (if p then some () else none) = some u) : p := by
  by_cases hp : p
  · exact hp
  · rw [if_neg hp] at h; cases h
theorem chkN_lt {n : Nat} {u : Unit} (h : chkN n = some u) : n < sizeLine := by rw [sizeLine_eq]; exact of_ite h
theorem chkN_le {n : Nat} {u : Unit} (h : chkN n = some u) : n ≤ sizeLine := Nat.le_of_lt (chkN_lt h)
theorem chkP_ok {j : Int} {u : Unit} (h : chkP j = some u) : 0 < j := of_ite h
theorem chkD_ok' {i j : Int} {u : Unit} (h : chkD j = some u) : CDiv i j := by
  show 0 < j ∧ j < 1073741824
  exact of_ite h
theorem chkM_ok {i j : Int} {u : Unit} (h : chkM i j = some u) : CMul i j := by
  show (-(2 ^ 64) < i ∧ i < 2 ^ 64) ∨ (-(2 ^ 64) < j ∧ j < 2 ^ 64)
  exact of_ite h
theorem chkI_rng {lo hi : Int} {u : Unit} (h : chkI (hi - lo) = some u) : ((rng lo hi).map PyData.int).length ≤ sizeLine := by
  have : hi - lo < 16777216 := of_ite h
  rw [List.length_map, rng_len, sizeLine_eq]
  omega
theorem rng_small {lo hi : Int} (h : hi - lo < 16777216) : ((rng lo hi).map PyData.int).length ≤ sizeLine := by
  rw [List.length_map, rng_len, sizeLine_eq]
  omega
theorem atI_mem {α : Type} {xs : List α} {i : Int} {a : α} (h : atI xs i = some a) : a ∈ xs := by
  obtain ⟨j, _, e, _⟩ := atI_get h
  exact List.mem_of_getElem? e
/-- xs[i] = v -/
def setI {α : Type} (xs : List α) (i : Int) (v : α) : Option (List α) := (ixN xs.length i).bind fun j => some (xs.set j v)
theorem setI_ok {α : Type} {f : α → PyData} {xs ys : List α} {i : Int} {v : α} (h : setI xs i v = some ys) : ∃ n, ixN (xs.map f).length i = some n ∧ (xs.map f).set n (f v) = ys.map f := by
  obtain ⟨n, h1, h2⟩ := bnd h
  have h2 := inj_s h2
  subst h2
  exact ⟨n, by rw [List.length_map]; exact h1, by rw [List.map_set]⟩
theorem erase_map {α β : Type} {f : α → β} : ∀ {xs : List α} {n : Nat}, (xs.map f).eraseIdx n = (xs.eraseIdx n).map f
  | [], _ => rfl
  | _ :: _, 0 => rfl
  | x :: xs, n + 1 => by
    show f x :: (xs.map f).eraseIdx n = f x :: (xs.eraseIdx n).map f
    rw [erase_map]
def popI {α : Type} (xs : List α) (i : Int) : Option (α × List α) := (ixN xs.length i).bind fun j => (xs[j]?).bind fun v => some (v, xs.eraseIdx j)
theorem popI_ok {α : Type} {f : α → PyData} {xs : List α} {i : Int} {p : α × List α} (h : popI xs i = some p) : ∃ n, ixN (xs.map f).length i = some n ∧ (xs.map f)[n]? = some (f p.1) ∧ (xs.map f).eraseIdx n = p.2.map f := by
  obtain ⟨n, h1, h2⟩ := bnd h
  obtain ⟨v, h3, h4⟩ := bnd h2
  have h4 := inj_s h4
  subst h4
  refine ⟨n, by rw [List.length_map]; exact h1, by rw [List.getElem?_map, h3]; rfl, ?_⟩
  exact erase_map
def popL {α : Type} (xs : List α) : Option (α × List α) := (xs.getLast?).bind fun v => some (v, xs.dropLast)
theorem popL_ok {α : Type} {f : α → PyData} {xs : List α} {p : α × List α} (h : popL xs = some p) : (xs.map f).getLast? = some (f p.1) ∧ (xs.map f).dropLast = p.2.map f := by
  obtain ⟨v, h3, h4⟩ := bnd h
  have h4 := inj_s h4
  subst h4
  refine ⟨by rw [List.getLast?_map, h3]; rfl, ?_⟩
  rw [← List.map_dropLast]

section
variable {α β τ ρ κ ν : Type} {G : Cxt} {S S' S1 S2 S3 St : List Sl} {a b c e elt f tg iter kx vx : Expr} {es rest : List Expr} {body sts : List Stmt} {ifs : List Expr} {st : Stmt} {d d1 d2 : PyData} {ds : List PyData} {o o' : Ob} {s s1 : Sl} {pos p1 p2 p3 : Pos} {K : PySem.W.Frag} {A B : AP} {σ σ' : L2.St} {H H' : Hp} {p : Addr} {v : V} {k1 k2 : Bool} {i : Nat} {j : Int} {x : Str} {R : Rz}
theorem df_set (h : DF G e S (.lst ds) S1) (q : ds = ds') : DF G e S (.lst ds') S1 := q ▸ h

/-! ### and, or with nothing changed -/
theorem dw_andP (h : DT G a S k1 S1) (h1 : k1 = true → DW G (.BoolOp .And (b :: rest) pos) S1 k2 S1) : DW G (.BoolOp .And (a :: b :: rest) pos) S (k1 && k2) S1 := by
  cases k1 with
  | true => exact dw_and h (fun _ => h1 rfl) fun z => by cases z
  | false => exact dw_and h (fun z => by cases z) fun _ => ⟨rfl, rfl⟩
theorem dw_orP (h : DT G a S k1 S1) (h1 : k1 = false → DW G (.BoolOp .Or (b :: rest) pos) S1 k2 S1) : DW G (.BoolOp .Or (a :: b :: rest) pos) S (k1 || k2) S1 := by
  cases k1 with
  | false => exact dw_or h (fun _ => h1 rfl) fun z => by cases z
  | true => exact dw_or h (fun z => by cases z) fun _ => ⟨rfl, rfl⟩
theorem de_andP (h : DE G a S (.bool k1) S1) (h1 : k1 = true → DE G (.BoolOp .And (b :: rest) pos) S1 (.bool k2) S1) : DE G (.BoolOp .And (a :: b :: rest) pos) S (.bool (k1 && k2)) S1 := by
  cases k1 with
  | true => exact de_and h (fun _ => h1 rfl) fun z => by cases z
  | false => exact de_and h (fun z => by cases z) fun _ => ⟨rfl, rfl⟩
theorem de_orP (h : DE G a S (.bool k1) S1) (h1 : k1 = false → DE G (.BoolOp .Or (b :: rest) pos) S1 (.bool k2) S1) : DE G (.BoolOp .Or (a :: b :: rest) pos) S (.bool (k1 || k2)) S1 := by
  cases k1 with
  | false => exact de_or h (fun _ => h1 rfl) fun z => by cases z
  | true => exact de_or h (fun z => by cases z) fun _ => ⟨rfl, rfl⟩
theorem de_ifP {y z : α} {g : α → PyData} (h : DT G c S k1 S1) (h1 : k1 = true → DE G a S1 (g y) S2) (h2 : k1 = false → DE G b S1 (g z) S2) : DE G (.IfExp c a b pos) S (g (if k1 = true then y else z)) S2 := by
  cases k1 with
  | true => exact de_if h h1 fun z => by cases z
  | false => exact de_if h (fun z => by cases z) h2

/-! ### loops -/
def loopF (step : τ → α → Option τ) : τ → List α → Option τ
  | t, [] => some t
  | t, x :: xs => (step t x).bind fun t' => loopF step t' xs
theorem loopF_M {step : τ → α → Option τ} : ∀ {xs : List α} {t t1 : τ}, loopF step t xs = some t1 → loopM (ρ := Empty) (fun t x => (step t x).map Out.nx) t xs = some (.nx t1)
  | [], t, t1, h => by rw [inj_s h]; rfl
  | x :: xs, t, t1, h => by
    obtain ⟨t', h1, h2⟩ := bnd h
    unfold loopM
    rw [h1]
    exact loopF_M h2
theorem ds_forF {ix : List Nat} {f : α → PyData} {xs : List α} {t0 t1 : τ} {step : τ → α → Option τ} (slots : τ → List Sl) (tgt : τ → α → List Sl) (hi : DI G tg iter S (xs.map f) S1) (h0 : Wk S1 (slots t0))
    (hg : ∀ t x, x ∈ xs → DG G tg ix (slots t) (f x) (tgt t x)) (hb : ∀ t x t', x ∈ xs → step t x = some t' → DSs G body (tgt t x) (.nx (slots t'))) (hl : loopF step t0 xs = some t1)
    (hs : ∀ env x, foldedSetIterable iter env x = Pure.pure x := by intro _ _; rfl) : DS G (.For tg iter body [] pos) S (.nx (slots t1)) :=
  ds_for (ρ := Empty) (rt := fun _ => .dat .none) (rs := fun _ => []) (out := .nx t1) hi h0 hg (fun t x out hx h => by
    cases h1 : step t x with
    | none => rw [h1] at h; cases h
    | some t' =>
      rw [h1] at h
      have e : out = .nx t' := inj_s h
      subst e
      exact hb t x t' hx h1) (loopF_M hl) hs
/-- a loop that may leave the def, and what comes behind it -/
theorem dss_for {ix : List Nat} {f : α → PyData} {xs : List α} {t0 : τ} {step : τ → α → Option (Out ρ τ)} {out : Out ρ τ} (slots : τ → List Sl) (tgt : τ → α → List Sl) (rt : ρ → Rt) (rs : ρ → List Sl) (hi : DI G tg iter S (xs.map f) S1) (h0 : Wk S1 (slots t0))
    (hg : ∀ t x, x ∈ xs → DG G tg ix (slots t) (f x) (tgt t x)) (hb : ∀ t x out, x ∈ xs → step t x = some out → DSs G body (tgt t x) (rzo slots rt rs out)) (hl : loopM step t0 xs = some out)
    (hn : ∀ t, out = .nx t → DSs G sts (slots t) R) (hr : ∀ r, out = .ret r → R = .ret (rt r) (rs r))
    (hs : ∀ env x, foldedSetIterable iter env x = Pure.pure x := by intro _ _; rfl) : DSs G (.For tg iter body [] pos :: sts) S R := by
  have q := ds_for (pos := pos) (rt := rt) (rs := rs) hi h0 hg hb hl hs
  cases out with
  | nx t => exact dss_cons q (hn t rfl)
  | bk t =>
    exfalso
    have : ∀ (ys : List α) (u : τ), loopM step u ys ≠ some (.bk t) := by
      intro ys
      induction ys with
      | nil => intro u h; cases h
      | cons y ys ih =>
        intro u h
        unfold loopM at h
        cases h1 : step u y with
        | none => rw [h1] at h; cases h
        | some o1 =>
          rw [h1] at h
          cases o1 with
          | nx u' => exact ih u' h
          | bk u' => cases h
          | ret r => cases h
    exact this _ _ hl
  | ret r =>
    rw [hr r rfl]
    exact dss_end q
/-- behind a loop -/
def outC {γ : Type} (o : Out ρ τ) (kr : ρ → Option γ) (kn : τ → Option γ) : Option γ := match o with
  | .ret r => kr r
  | .nx t => kn t
  | .bk t => kn t
/-- of an answer that leaves -/
def Lv (o : Option (Out ρ τ)) : Prop := ∀ out, o = some out → (∃ t, out = .bk t) ∨ ∃ r, out = .ret r
theorem lv_bk {t : τ} : Lv (some (.bk t) : Option (Out ρ τ)) := fun out h => .inl ⟨t, inj_s h⟩
theorem lv_ret {r : ρ} : Lv (some (.ret r) : Option (Out ρ τ)) := fun out h => .inr ⟨r, inj_s h⟩
theorem lv_bind {o : Option α} {f : α → Option (Out ρ τ)} (h : ∀ x, Lv (f x)) : Lv (o.bind f) := fun out z => by
  obtain ⟨x, _, q⟩ := bnd z
  exact h x out q
theorem lv_ite {c : Bool} {x y : Option (Out ρ τ)} (h1 : Lv x) (h2 : Lv y) : Lv (if c = true then x else y) := by
  cases c with
  | true => exact h1
  | false => exact h2
theorem lv_of {o : Option (Out ρ τ)} {out : Out ρ τ} {slots : τ → List Sl} {rt : ρ → Rt} {rs : ρ → List Sl} (h : Lv o) (e : o = some out) : (rzo slots rt rs out).leaves = true := by
  rcases h out e with ⟨t, rfl⟩ | ⟨r, rfl⟩ <;> rfl

/-! ### comprehensions -/
def compO (step : α → Option (Option β)) : List α → Option (List β)
  | [] => some []
  | x :: xs => (step x).bind fun o => (compO step xs).bind fun ys => some (consO o ys)
theorem compO_M {step : α → Option (Option β)} : ∀ {xs : List α} {ys : List β}, compO step xs = some ys → compM (fun (_ : Unit) x => (step x).bind fun o => some (o, ())) () xs = some (ys, ())
  | [], ys, h => by rw [inj_s h]; rfl
  | x :: xs, ys, h => by
    obtain ⟨o, h1, h2⟩ := bnd h
    obtain ⟨zs, h3, h4⟩ := bnd h2
    rw [inj_s h4]
    have ih := compO_M h3
    unfold compM
    rw [h1]
    simp only [Option.bind_some]
    rw [ih]
theorem compP_O {cd : α → Bool} {el : α → β} : ∀ {xs : List α}, compO (fun x => some (if cd x = true then some (el x) else none)) xs = some ((xs.filter cd).map el)
  | [] => rfl
  | x :: xs => by
    unfold compO
    rw [compP_O]
    by_cases h : cd x = true
    · simp [h, List.filter_cons, consO]
    · simp [h, List.filter_cons, consO]
/-- nothing changes while it is made; items that may be lacking -/
theorem lc_okO {scope : Scope} {own : List (Str × Nat)} {tab : List (Str × Nat)} {loc : List Str} {ix : List Nat} {f : α → PyData} {h : β → PyData} {xs : List α} {ys : List β} {step : α → Option (Option β)} {tgt : α → List Sl}
    (hc : (G.blk scope tab loc).chk = true) (hb : blkC G.N G.sc scope own = true) (hz : DZ G tg iter S (xs.map f) S1) (hn : noOwn S1 (own.map (·.2)) = true)
    (hix : ∀ i ∈ ix, i ∈ own.map (·.2)) (hg : ∀ x, x ∈ xs → DG (G.blk scope tab loc) tg ix (wipeS S1 (own.map (·.2))) (f x) (tgt x))
    (ht : ∀ x o, x ∈ xs → step x = some o → Turn1 (G.blk scope tab loc) elt ifs (own.map (·.2)) (tgt x) (wipeS S1 (own.map (·.2))) h o)
    (he : compO step xs = some ys) (X : Cx) (ok : G.Ok X) : LcP X elt tg iter ifs scope own (tF X.K S (.lst (ys.map h)) S1) :=
  lc_ok (slots := fun _ => S1) (tgt := fun _ => tgt) (t0 := ()) (t1 := ()) hc hb hz hn (fun _ _ _ => rfl) (fun _ => rfl) hix (fun _ x hx => hg x hx) (fun _ x o _ hx hs => by
    obtain ⟨o', h1, h2⟩ := bnd hs
    have := Option.some.inj h2
    cases this
    exact ht x o hx h1) (compO_M he) X ok
/-- .. items that are there -/
theorem lc_okP {scope : Scope} {own : List (Str × Nat)} {tab : List (Str × Nat)} {loc : List Str} {ix : List Nat} {f : α → PyData} {h : β → PyData} {xs : List α} {cd : α → Bool} {el : α → β} {tgt : α → List Sl}
    (hc : (G.blk scope tab loc).chk = true) (hb : blkC G.N G.sc scope own = true) (hz : DZ G tg iter S (xs.map f) S1) (hn : noOwn S1 (own.map (·.2)) = true)
    (hix : ∀ i ∈ ix, i ∈ own.map (·.2)) (hg : ∀ x, x ∈ xs → DG (G.blk scope tab loc) tg ix (wipeS S1 (own.map (·.2))) (f x) (tgt x))
    (ht : ∀ x, x ∈ xs → DTs (G.blk scope tab loc) ifs (tgt x) (cd x) (tgt x)) (hel : ∀ x, x ∈ xs → cd x = true → DE (G.blk scope tab loc) elt (tgt x) (h (el x)) (tgt x)) (hw : ∀ x, wipeS (tgt x) (own.map (·.2)) = wipeS S1 (own.map (·.2)))
    (X : Cx) (ok : G.Ok X) : LcP X elt tg iter ifs scope own (tF X.K S (.lst (((xs.filter cd).map el).map h)) S1) :=
  lc_okO (tgt := tgt) (step := fun x => some (if cd x = true then some (el x) else none)) hc hb hz hn hix hg (fun x o hx hs => by
    have e := inj_s hs
    have q := ht x hx
    cases hcd : cd x with
    | false =>
      rw [hcd] at q
      have e : o = none := by rw [e, hcd]; rfl
      subst e
      exact ⟨tgt x, q, hw x⟩
    | true =>
      rw [hcd] at q
      have e : o = some (el x) := by rw [e, hcd]; rfl
      subst e
      exact ⟨tgt x, tgt x, q, hel x hx hcd, hw x⟩) compP_O X ok
theorem dc_okP {scope : Scope} {own : List (Str × Nat)} {tab : List (Str × Nat)} {loc : List Str} {ix : List Nat} {f : α → PyData} {h : β → Key × PyData} {xs : List α} {cd : α → Bool} {el : α → β} {tgt : α → List Sl}
    (hc : (G.blk scope tab loc).chk = true) (hb : blkC G.N G.sc scope own = true) (hz : DZ G tg iter S (xs.map f) S1) (hn : noOwn S1 (own.map (·.2)) = true)
    (hix : ∀ i ∈ ix, i ∈ own.map (·.2)) (hg : ∀ x, x ∈ xs → DG (G.blk scope tab loc) tg ix (wipeS S1 (own.map (·.2))) (f x) (tgt x))
    (ht : ∀ x, x ∈ xs → DTs (G.blk scope tab loc) ifs (tgt x) (cd x) (tgt x)) (hk : ∀ x, x ∈ xs → cd x = true → DE (G.blk scope tab loc) kx (tgt x) (kD (h (el x)).1) (tgt x)) (hv : ∀ x, x ∈ xs → cd x = true → DE (G.blk scope tab loc) vx (tgt x) (h (el x)).2 (tgt x)) (hw : ∀ x, wipeS (tgt x) (own.map (·.2)) = wipeS S1 (own.map (·.2)))
    (hsf : ∀ env x, foldedSetIterable iter env x = Pure.pure x := by intro _ _; rfl) : DF G (.DictComp kx vx [⟨tg, iter, ifs, 0⟩] scope pos) S (.dk (ofP (((xs.filter cd).map el).map h))) S1 := fun X ok =>
  dc_ok (slots := fun _ => S1) (tgt := fun _ => tgt) (t0 := ()) (t1 := ()) (step := fun (_ : Unit) x => (some (if cd x = true then some (el x) else none)).bind fun o => some (o, ())) hc hb hz hn (fun _ _ _ => rfl) (fun _ => rfl) hix (fun _ x hx => hg x hx) (fun _ x o _ hx hs => by
    have e1 := Option.some.inj hs
    have q := ht x hx
    cases hcd : cd x with
    | false =>
      rw [hcd] at q e1
      cases e1
      exact ⟨tgt x, q, hw x⟩
    | true =>
      rw [hcd] at q e1
      cases e1
      exact ⟨tgt x, tgt x, tgt x, q, hk x hx hcd, hv x hx hcd, hw x⟩) (compO_M compP_O) hsf X ok

/-! ### typed rules -/
section
variable [DecidableEq α] [Enc α] [DecidableEq β] [Enc β]
theorem cr_eqT {x y : α} (h : Enc.dp α ≤ 100 := by decide) : CR G .Eq (en x) (en y) (decide (x = y)) := by
  have := cr_eqD (G := G) (Enc.plain x) (Enc.plain y) (.inl (Nat.le_trans (Enc.depth x) h))
  rw [Enc.eqv] at this
  exact this
theorem cr_neT {x y : α} (h : Enc.dp α ≤ 100 := by decide) : CR G .NotEq (en x) (en y) (!decide (x = y)) := by
  have := cr_neD (G := G) (Enc.plain x) (Enc.plain y) (.inl (Nat.le_trans (Enc.depth x) h))
  rw [Enc.eqv] at this
  exact this
theorem any_eqv {x : α} : ∀ xs : List α, ((xs.map Enc.enc).any fun y => PyData.eqv y (Enc.enc x)) = decide (x ∈ xs)
  | [] => by simp
  | y :: ys => by
    rw [List.map_cons, List.any_cons, any_eqv ys, Enc.eqv]
    by_cases h : y = x
    · simp [h]
    · have : ¬ x = y := fun z => h z.symm
      simp [h, this]
theorem cr_inTT {x : α} {xs : List α} (h : Enc.dp α ≤ 100 := by decide) : CR G .In (en x) (.tuple (xs.map Enc.enc)) (decide (x ∈ xs)) := by
  have := cr_inT (G := G) (plainAll_map xs) (Enc.plain x) (Nat.le_trans (Enc.depth x) h)
  rw [any_eqv] at this
  exact this
theorem cr_ninTT {x : α} {xs : List α} (h : Enc.dp α ≤ 100 := by decide) : CR G .NotIn (en x) (.tuple (xs.map Enc.enc)) (!decide (x ∈ xs)) := by
  have := cr_ninT (G := G) (plainAll_map xs) (Enc.plain x) (Nat.le_trans (Enc.depth x) h)
  rw [any_eqv] at this
  exact this
theorem or_inTT {x : α} {xs : List α} (h : Enc.dp α ≤ 100 := by decide) : ∀ X, G.Ok X → OpR X (compareOp .In) (rDat X.K (en x) (.list (xs.map Enc.enc)) (decide (x ∈ xs))) := by
  have := or_inL (G := G) (plainAll_map xs) (Enc.plain x) (Nat.le_trans (Enc.depth x) h)
  rw [any_eqv] at this
  exact this
theorem or_ninTT {x : α} {xs : List α} (h : Enc.dp α ≤ 100 := by decide) : ∀ X, G.Ok X → OpR X (compareOp .NotIn) (rDat X.K (en x) (.list (xs.map Enc.enc)) (!decide (x ∈ xs))) := by
  have := or_ninL (G := G) (plainAll_map xs) (Enc.plain x) (Nat.le_trans (Enc.depth x) h)
  rw [any_eqv] at this
  exact this
theorem isNon_O [EncN α] {x : Option α} : isNon (en x) = x.isNone := by
  cases x with
  | none => rfl
  | some a =>
    show isNon (Enc.enc a) = false
    have := EncN.nn a
    revert this
    cases Enc.enc a <;> intro h <;> first | rfl | exact absurd rfl h
theorem cut_len {xs : List α} : (xs.map (Enc.enc (α := α))).length = xs.length := List.length_map _
end
/-- what the sort asks -/
class EncL (α : Type) [DecidableEq α] [Enc α] : Prop where
  al : ∀ a b : α, PySem.W.alike (Enc.enc a) (Enc.enc b) = true
class EncA (α : Type) [DecidableEq α] [Enc α] : Prop extends EncL α where
  so : ∀ xs : List α, Sortab (xs.map Enc.enc)
theorem alike_tup {xs ys : List PyData} : PySem.W.alike (.tuple xs) (.tuple ys) = PySem.W.alikeAll xs ys := by rw [PySem.W.alike]
instance : EncL Int := ⟨fun a b => by show PySem.W.alike (.int a) (.int b) = true; simp [PySem.W.alike]⟩
instance : EncL Bool := ⟨fun a b => by show PySem.W.alike (.bool a) (.bool b) = true; simp [PySem.W.alike]⟩
instance : EncL Str := ⟨fun a b => by show PySem.W.alike (.str a) (.str b) = true; simp [PySem.W.alike]⟩
instance : EncA Int := ⟨fun xs => .inl (PySem.W.Sortable.others (enc := Enc.enc) fun b => ⟨(fun h => by cases h), (fun ys h => by cases h)⟩)⟩
instance : EncA Bool := ⟨fun xs => .inl (PySem.W.Sortable.others (enc := Enc.enc) fun b => ⟨(fun h => by cases h), (fun ys h => by cases h)⟩)⟩
instance : EncA Str := ⟨fun xs => .inl (PySem.W.Sortable.others (enc := Enc.enc) fun b => ⟨(fun h => by cases h), (fun ys h => by cases h)⟩)⟩
theorem alike_rows [DecidableEq α] [Enc α] [EncL α] : ∀ xs ys : List α, PySem.W.alikeAll (xs.map Enc.enc) (ys.map Enc.enc) = true
  | [], _ => by rw [List.map_nil]; unfold PySem.W.alikeAll; rfl
  | _ :: _, [] => by rw [List.map_nil, List.map_cons]; unfold PySem.W.alikeAll; rfl
  | x :: xs, y :: ys => by
    rw [List.map_cons, List.map_cons]
    unfold PySem.W.alikeAll
    rw [EncL.al, alike_rows xs ys]; rfl
instance [DecidableEq α] [Enc α] [EncL α] : EncL (List α) := ⟨fun x y => by
  show PySem.W.alike (.tuple _) (.tuple _) = true
  rw [alike_tup]; exact alike_rows x y⟩
section
variable {γ δ ε : Type} [DecidableEq α] [Enc α] [DecidableEq β] [Enc β] [DecidableEq γ] [Enc γ] [DecidableEq δ] [Enc δ] [DecidableEq ε] [Enc ε]
instance [EncL α] : EncL (T1 α) := ⟨fun x y => by
  show PySem.W.alike (.tuple [_]) (.tuple [_]) = true
  simp only [PySem.W.alike, PySem.W.alikeAll, EncL.al, Bool.and_self]⟩
instance [EncL α] [EncL β] : EncL (T2 α β) := ⟨fun x y => by
  show PySem.W.alike (.tuple [_, _]) (.tuple [_, _]) = true
  simp only [PySem.W.alike, PySem.W.alikeAll, EncL.al, Bool.and_self]⟩
instance [EncL α] [EncL β] [EncL γ] : EncL (T3 α β γ) := ⟨fun x y => by
  show PySem.W.alike (.tuple [_, _, _]) (.tuple [_, _, _]) = true
  simp only [PySem.W.alike, PySem.W.alikeAll, EncL.al, Bool.and_self]⟩
instance [EncL α] [EncL β] [EncL γ] [EncL δ] : EncL (T4 α β γ δ) := ⟨fun x y => by
  show PySem.W.alike (.tuple [_, _, _, _]) (.tuple [_, _, _, _]) = true
  simp only [PySem.W.alike, PySem.W.alikeAll, EncL.al, Bool.and_self]⟩
instance [EncL α] : EncA (T1 α) := ⟨fun xs => .inl (PySem.W.Sortable.tuples (enc := Enc.enc) fun b => ⟨_, _, rfl⟩)⟩
instance [EncL α] [EncL β] : EncA (T2 α β) := ⟨fun xs => .inl (PySem.W.Sortable.tuples (enc := Enc.enc) fun b => ⟨_, _, rfl⟩)⟩
instance [EncL α] [EncL β] [EncL γ] : EncA (T3 α β γ) := ⟨fun xs => .inl (PySem.W.Sortable.tuples (enc := Enc.enc) fun b => ⟨_, _, rfl⟩)⟩
instance [EncL α] [EncL β] [EncL γ] [EncL δ] : EncA (T4 α β γ δ) := ⟨fun xs => .inl (PySem.W.Sortable.tuples (enc := Enc.enc) fun b => ⟨_, _, rfl⟩)⟩
instance [EncL α] : EncA (List α) := ⟨fun xs => .inr fun d hd => by
  obtain ⟨x, _, rfl⟩ := List.mem_map.mp hd
  exact ⟨_, rfl⟩⟩
def sortE (xs : List α) : List α := xs.mergeSort (PySem.W.dataLe false Enc.enc)
theorem sortE_map {xs : List α} : (xs.map Enc.enc).mergeSort (PySem.W.dataLe false id) = (sortE xs).map (Enc.enc (α := α)) := (List.map_mergeSort (r := PySem.W.dataLe false Enc.enc) (s := PySem.W.dataLe false id) (f := Enc.enc) (l := xs) fun _ _ _ _ => rfl).symm
theorem df_sortT [EncA α] {xs : List α} (hx : G.blt.elem ("sorted" : Str) = true) (h : DE G e S (.tuple (xs.map Enc.enc)) S1) (hd : Enc.dp α ≤ 100 := by decide) (hs : ∀ env, starEach [e] env = (false, eval e env) :: starEach [] env := by intro _; rfl) (hp : ∀ env, (backTo pos (starEach ([] : List Expr) env)).any (·.1) = false := by intro _; rfl) :
    DF G (.Call (.Name "sorted" p1) [e] [] pos) S (.lst ((sortE xs).map Enc.enc)) S1 := by
  rw [← sortE_map]
  refine df_sortedT hx h (PySem.W.AllAlike.of EncL.al) (EncA.so xs) (fun d hd' => ?_) hs hp
  obtain ⟨y, _, rfl⟩ := List.mem_map.mp hd'
  exact Nat.le_trans (Enc.depth y) hd
theorem df_sortL [EncA α] {xs : List α} (hx : G.blt.elem ("sorted" : Str) = true) (h : DB G e S (.lst (xs.map Enc.enc)) S1) (hd : Enc.dp α ≤ 100 := by decide) (hs : ∀ env, starEach [e] env = (false, eval e env) :: starEach [] env := by intro _; rfl) (hp : ∀ env, (backTo pos (starEach ([] : List Expr) env)).any (·.1) = false := by intro _; rfl) :
    DF G (.Call (.Name "sorted" p1) [e] [] pos) S (.lst ((sortE xs).map Enc.enc)) S1 := by
  rw [← sortE_map]
  refine df_sortedL hx h (PySem.W.AllAlike.of EncL.al) (EncA.so xs) (fun d hd' => ?_) hs hp
  obtain ⟨y, _, rfl⟩ := List.mem_map.mp hd'
  exact Nat.le_trans (Enc.depth y) hd
theorem sortE_int {xs : List Int} : sortE xs = xs.mergeSort fun a b => decide (a ≤ b) := by
  unfold sortE
  rw [show (PySem.W.dataLe false (Enc.enc : Int → PyData)) = fun a b => decide (a ≤ b) from PySem.W.dataLe_int id]
end

/-! ### typed dicts -/
class KeyE (κ : Type) [DecidableEq κ] [Enc κ] where
  key : κ → Key
  inj : ∀ a b, key a = key b → a = b
  kd : ∀ a, kD (key a) = Enc.enc a
instance : KeyE Int := ⟨Sum.inl, fun _ _ h => Sum.inl.inj h, fun _ => rfl⟩
instance : KeyE Str := ⟨Sum.inr, fun _ _ h => Sum.inr.inj h, fun _ => rfl⟩
section
variable [DecidableEq κ] [Enc κ] [KeyE κ] [DecidableEq ν] [Enc ν] {dd : List (κ × ν)} {k : κ} {w : ν}
def dE (dd : List (κ × ν)) : List (Key × PyData) := mapG KeyE.key Enc.enc dd
theorem dE_get : getG (dE dd) (KeyE.key k) = (getG dd k).map Enc.enc := getG_map KeyE.inj k dd
theorem dE_put : putG (dE dd) (KeyE.key k) (Enc.enc w) = dE (putG dd k w) := putG_map KeyE.inj dd k w
theorem dE_len : (dE dd).length = dd.length := mapG_len
theorem dE_pur : Ob.pur (.dk (dE dd)) = true := by
  show purs ((dE dd).map (·.2)) = true
  unfold dE mapG
  rw [List.map_map, purs_all, List.all_eq_true]
  intro d hd
  obtain ⟨y, _, rfl⟩ := List.mem_map.mp hd
  exact Enc.pure y.2
theorem de_dgetT (ho : DB G a S (.dk (dE dd)) S1) (hi : DE G e S1 (en k) S2) (hd : getG dd k = some w) (hs : NoSl e := by intro _ _; rfl) : DE G (.Subscript a e pos) S (en w) S2 :=
  de_dget (k := KeyE.key k) ho (by rw [KeyE.kd]; exact hi) (by rw [dE_get, hd]; rfl) hs
theorem dt_dinT (hi : DE G e S (en k) S1) (ho : DB G a S1 (.dk (dE dd)) S2) (hm : behindInMarks .In a = false := by rfl) : DT G (.Compare e [.In] [a] pos) S (getG dd k).isSome S2 := by
  have := dt_din (k := KeyE.key k) (pos := pos) (by rw [KeyE.kd]; exact hi) ho hm
  rw [dE_get, Option.isSome_map] at this
  exact this
theorem de_dinT (hi : DE G e S (en k) S1) (ho : DB G a S1 (.dk (dE dd)) S2) (hm : behindInMarks .In a = false := by rfl) : DE G (.Compare e [.In] [a] pos) S (.bool (getG dd k).isSome) S2 := by
  have := de_din (k := KeyE.key k) (pos := pos) (by rw [KeyE.kd]; exact hi) ho hm
  rw [dE_get, Option.isSome_map] at this
  exact this
theorem dt_dninT (hi : DE G e S (en k) S1) (ho : DB G a S1 (.dk (dE dd)) S2) (hm : behindInMarks .NotIn a = false := by rfl) : DT G (.Compare e [.NotIn] [a] pos) S (!(getG dd k).isSome) S2 := by
  have := dt_dnin (k := KeyE.key k) (pos := pos) (by rw [KeyE.kd]; exact hi) ho hm
  rw [dE_get, Option.isSome_map] at this
  exact this
theorem de_dninT (hi : DE G e S (en k) S1) (ho : DB G a S1 (.dk (dE dd)) S2) (hm : behindInMarks .NotIn a = false := by rfl) : DE G (.Compare e [.NotIn] [a] pos) S (.bool (!(getG dd k).isSome)) S2 := by
  have := de_dnin (k := KeyE.key k) (pos := pos) (by rw [KeyE.kd]; exact hi) ho hm
  rw [dE_get, Option.isSome_map] at this
  exact this
theorem de_get1T [EncN ν] {nm : Pos} (ho : DB G a S (.dk (dE dd)) S1) (hi : DE G e S1 (en k) S2) (m : ∀ X, M1 X a "get" nm e pos := by intro _; exact ⟨rfl, rfl, rfl, rfl⟩) : DE G (.Call (.Attribute a "get" nm) [e] [] pos) S (en (getG dd k)) S2 :=
  de_get1 (k := KeyE.key k) ho (by rw [KeyE.kd]; exact hi) (by rw [dE_get]; cases getG dd k <;> rfl) m
theorem de_get2T {nm : Pos} (ho : DB G a S (.dk (dE dd)) S1) (hi : DE G e S1 (en k) S2) (hf : DE G f S2 (en w) S3) (m : ∀ X, M2 X a "get" nm e f pos := by intro _; exact ⟨rfl, rfl, rfl, rfl⟩) : DE G (.Call (.Attribute a "get" nm) [e, f] [] pos) S (en ((getG dd k).getD w)) S3 :=
  de_get2 (k := KeyE.key k) ho (by rw [KeyE.kd]; exact hi) hf (by rw [dE_get]; cases getG dd k <;> rfl) m
theorem ds_dputT {value : Expr} {dd2 : List (κ × ν)} (hx : G.tab.lookup x = some i) (hv : DE G value S (en w) S1) (h0 : S1[i]? = some s) (m0 : Mine s (.dk (dE dd))) (he : DE G e S1 (en k) S2) (h1 : S2[i]? = some s1) (m1 : Mine s1 (.dk (dE dd2))) (hz : dd2.length < sizeLine)
    (hs : ∀ env, swapsWith value (some (.Subscript (.Name x p1) e p2)) pos.line env = Pure.pure false := by intro _; rfl) : DS G (.Assign [.Subscript (.Name x p1) e p2] value pos) S (.nx (S2.set i (reob s1 (.dk (dE (putG dd2 k w)))))) := by
  have := ds_dput (k := KeyE.key k) (p1 := p1) (p2 := p2) (pos := pos) hx hv h0 m0 (by rw [KeyE.kd]; exact he) h1 m1 (by rw [dE_len]; exact hz) hs
  rw [dE_put] at this
  exact this
theorem de_lenDT (hx : G.blt.elem ("len" : Str) = true) (h : DB G e S (.dk (dE dd)) S1) (hs : ∀ env, starEach [e] env = (false, eval e env) :: starEach [] env := by intro _; rfl) (hp : ∀ env, (backTo pos (starEach ([] : List Expr) env)).any (·.1) = false := by intro _; rfl) : DE G (.Call (.Name "len" p1) [e] [] pos) S (.int dd.length) S1 := by
  have := de_lenD (p1 := p1) hx h hs hp
  rw [dE_len] at this
  exact this
/-- the keys -/
def keysG (dd : List (κ × ν)) : List κ := dd.map (·.1)
theorem dE_keys : ((dE dd).map fun q => kD q.1) = (keysG dd).map Enc.enc := by
  unfold dE mapG keysG
  rw [List.map_map, List.map_map]
  exact List.map_congr_left fun q _ => KeyE.kd q.1
theorem di_keysT (hx : G.tab.lookup x = some i) (hs : S[i]? = some (.lkd (.dk (dE dd)))) : DI G tg (.Name x pos) S ((keysG dd).map Enc.enc) S := by
  have := di_keys (G := G) (tg := tg) (pos := pos) hx hs
  rw [dE_keys] at this
  exact this
theorem ofP_dE {ps : List (κ × ν)} : ofP (ps.map fun p => (KeyE.key p.1, Enc.enc p.2)) = dE (ofP ps) := ofP_map KeyE.inj ps
end
theorem df_sortDI {ν : Type} [DecidableEq ν] [Enc ν] {dd : List (Int × ν)} (hx : G.blt.elem ("sorted" : Str) = true) (h : DB G e S (.dk (dE dd)) S1) (h64 : dd.length < 64) (hs : ∀ env, starEach [e] env = (false, eval e env) :: starEach [] env := by intro _; rfl) (hp : ∀ env, (backTo pos (starEach ([] : List Expr) env)).any (·.1) = false := by intro _; rfl) :
    DF G (.Call (.Name "sorted" p1) [e] [] pos) S (.lst ((sortE (keysG dd)).map Enc.enc)) S1 := by
  rw [sortE_int]
  refine df_sortedDI (ks := keysG dd) hx h ?_ (by unfold keysG; rw [List.length_map]; exact h64) hs hp
  unfold dE mapG keysG
  rw [List.map_map, List.map_map]
  rfl
def chk64 (n : Nat) : Option Unit := if n < 64 then some () else none
theorem chk64_ok {n : Nat} {u : Unit} (h : chk64 n = some u) : n < 64 := of_ite h
end
end Pw
namespace Pw
open PySem PySem.Spec L2

section
variable {α β τ ρ κ ν : Type} [DecidableEq α] [Enc α] {G : Cxt} {S S' S1 S2 S3 St : List Sl} {a b c e elt f tg iter kx vx value : Expr} {es rest : List Expr} {body sts : List Stmt} {ifs : List Expr} {st : Stmt} {d d1 d2 : PyData} {ds : List PyData} {o o' : Ob} {s s1 : Sl} {pos p1 p2 p3 : Pos} {K : PySem.W.Frag} {A B : AP} {σ σ' : L2.St} {H H' : Hp} {p : Addr} {v : V} {k1 k2 : Bool} {i : Nat} {j : Int} {x : Str} {R : Rz} {lo hi : Option Expr} {vl vh : Option Int}
  {xs ys : List α} {y : α} {u : Unit}
theorem de_lenTT (hx : G.blt.elem ("len" : Str) = true) (h : DE G e S (.tuple (xs.map Enc.enc)) S1) (hs : ∀ env, starEach [e] env = (false, eval e env) :: starEach [] env := by intro _; rfl) (hp : ∀ env, (backTo pos (starEach ([] : List Expr) env)).any (·.1) = false := by intro _; rfl) : DE G (.Call (.Name "len" p1) [e] [] pos) S (.int xs.length) S1 := by
  have := de_lenT (p1 := p1) hx h hs hp
  rw [List.length_map] at this
  exact this
theorem de_lenLT (hx : G.blt.elem ("len" : Str) = true) (h : DB G e S (.lst (xs.map Enc.enc)) S1) (hs : ∀ env, starEach [e] env = (false, eval e env) :: starEach [] env := by intro _; rfl) (hp : ∀ env, (backTo pos (starEach ([] : List Expr) env)).any (·.1) = false := by intro _; rfl) : DE G (.Call (.Name "len" p1) [e] [] pos) S (.int xs.length) S1 := by
  have := de_lenL (p1 := p1) hx h hs hp
  rw [List.length_map] at this
  exact this
theorem de_ixTT (ha : DE G a S (.tuple (xs.map Enc.enc)) S1) (hb : DE G b S1 (.int j) S2) (h : atI xs j = some y) (hs : PlainIx b := by intro _ _; rfl) : DE G (.Subscript a b pos) S (en y) S2 := de_ixT ha hb (atI_map h) hs
theorem de_ixLT (ha : DB G a S (.lst (xs.map Enc.enc)) S1) (hb : DE G b S1 (.int j) S2) (h : atI xs j = some y) (hs : PlainIx b := by intro _ _; rfl) : DE G (.Subscript a b pos) S (en y) S2 := de_ixL ha hb (atI_map h) hs
theorem de_slTT (ha : DE G a S (.tuple (xs.map Enc.enc)) S1) (h1 : DO G lo S1 vl S2) (h2 : DO G hi S2 vh S3) : DE G (.Subscript a (.Slice lo hi none p2) pos) S (.tuple ((cutL xs vl vh).map Enc.enc)) S3 := by
  rw [← cutL_map]
  exact de_slT ha h1 h2
theorem df_slLT (ha : DB G a S (.lst (xs.map Enc.enc)) S1) (h1 : DO G lo S1 vl S2) (h2 : DO G hi S2 vh S3) : DF G (.Subscript a (.Slice lo hi none p2) pos) S (.lst ((cutL xs vl vh).map Enc.enc)) S3 := by
  rw [← cutL_map]
  exact df_slL ha h1 h2
theorem de_revTT {k : Nat} {q1 q2 q3 : Pos} (ha : DE G a S (.tuple (xs.map Enc.enc)) S1) : DE G (.Subscript a (.Slice none none (some (.UnaryOp .USub (.Constant (.int 1) k q1) q2)) q3) pos) S (.tuple (xs.reverse.map Enc.enc)) S1 := by
  rw [List.map_reverse]
  exact de_revT ha
theorem df_revLT {k : Nat} {q1 q2 q3 : Pos} (ha : DB G a S (.lst (xs.map Enc.enc)) S1) : DF G (.Subscript a (.Slice none none (some (.UnaryOp .USub (.Constant (.int 1) k q1) q2)) q3) pos) S (.lst (xs.reverse.map Enc.enc)) S1 := by
  rw [List.map_reverse]
  exact df_revL ha
theorem de_catTT (ha : DE G a S (.tuple (xs.map Enc.enc)) S1) (hb : DE G b S1 (.tuple (ys.map Enc.enc)) S2) (hz : chkN (xs.length + ys.length) = some u) : DE G (.BinOp a .Add b pos) S (.tuple ((xs ++ ys).map Enc.enc)) S2 := by
  rw [List.map_append]
  exact de_catT ha hb (by rw [List.length_map, List.length_map]; exact chkN_le hz)
theorem de_appendT {nm : Pos} (hx : G.tab.lookup x = some i) (h0 : S[i]? = some s) (m0 : Mine s (.lst ds)) (he : DE G e S (en y) S1) (h1 : S1[i]? = some s1) (m1 : Mine s1 (.lst (xs.map Enc.enc))) (hz : chkN xs.length = some u)
    (ha : ∀ env, attributeBase (.Name x p1) "append" env (eval (.Name x p1) env) = eval (.Name x p1) env := by intro _; rfl)
    (hf : ∀ env, ((backTo pos (starEach [e] env)).all (fun x => !x.1) && (backToKw pos (keywordEach [] env)).all (fun x => x.1.isSome) && decide (([e] : List Expr).length + ([] : List Keyword).length + (if ([] : List Keyword).isEmpty then 0 else 1) < 30)) = true := by intro _; rfl)
    (hl : (nm.endLine == pos.line) = true := by rfl) (hs : ∀ env, starEach [e] env = (false, eval e env) :: starEach [] env := by intro _; rfl) (hp : ∀ env, (backTo pos (starEach ([] : List Expr) env)).any (·.1) = false := by intro _; rfl) :
    DE G (.Call (.Attribute (.Name x p1) "append" nm) [e] [] pos) S .none (S1.set i (reob s1 (.lst ((xs ++ [y]).map Enc.enc)))) := by
  rw [List.map_append]
  exact de_append hx h0 m0 he h1 m1 (by rw [List.length_map]; exact chkN_lt hz) ha hf hl hs hp
theorem de_popT {nm : Pos} {q : α × List α} (hx : G.tab.lookup x = some i) (h0 : S[i]? = some s) (m0 : Mine s (.lst (xs.map Enc.enc))) (hd : popL xs = some q)
    (ha : ∀ env, attributeBase (.Name x p1) "pop" env (eval (.Name x p1) env) = eval (.Name x p1) env := by intro _; rfl) (hl : (nm.endLine == pos.line) = true := by rfl) :
    DE G (.Call (.Attribute (.Name x p1) "pop" nm) [] [] pos) S (en q.1) (S.set i (reob s (.lst (q.2.map Enc.enc)))) := by
  obtain ⟨h1, h2⟩ := popL_ok (f := Enc.enc) hd
  rw [← h2]
  exact de_pop hx h0 m0 h1 ha hl
theorem de_popAtT {nm : Pos} {q : α × List α} (hx : G.tab.lookup x = some i) (h0 : S[i]? = some s) (m0 : Mine s (.lst ds)) (he : DE G e S (.int j) S1) (h1 : S1[i]? = some s1) (m1 : Mine s1 (.lst (xs.map Enc.enc))) (hd : popI xs j = some q)
    (ha : ∀ env, attributeBase (.Name x p1) "pop" env (eval (.Name x p1) env) = eval (.Name x p1) env := by intro _; rfl)
    (hf : ∀ env, ((backTo pos (starEach [e] env)).all (fun x => !x.1) && (backToKw pos (keywordEach [] env)).all (fun x => x.1.isSome) && decide (([e] : List Expr).length + ([] : List Keyword).length + (if ([] : List Keyword).isEmpty then 0 else 1) < 30)) = true := by intro _; rfl)
    (hl : (nm.endLine == pos.line) = true := by rfl) (hs : ∀ env, starEach [e] env = (false, eval e env) :: starEach [] env := by intro _; rfl) (hp : ∀ env, (backTo pos (starEach ([] : List Expr) env)).any (·.1) = false := by intro _; rfl) :
    DE G (.Call (.Attribute (.Name x p1) "pop" nm) [e] [] pos) S (en q.1) (S1.set i (reob s1 (.lst (q.2.map Enc.enc)))) := by
  obtain ⟨n, g1, g2, g3⟩ := popI_ok (f := Enc.enc) hd
  rw [← g3]
  exact de_popAt hx h0 m0 he h1 m1 g1 g2 ha hf hl hs hp
theorem de_reverseT {nm : Pos} (hx : G.tab.lookup x = some i) (h0 : S[i]? = some s) (m0 : Mine s (.lst (xs.map Enc.enc)))
    (ha : ∀ env, attributeBase (.Name x p1) "reverse" env (eval (.Name x p1) env) = eval (.Name x p1) env := by intro _; rfl) (hl : (nm.endLine == pos.line) = true := by rfl) :
    DE G (.Call (.Attribute (.Name x p1) "reverse" nm) [] [] pos) S .none (S.set i (reob s (.lst (xs.reverse.map Enc.enc)))) := by
  rw [List.map_reverse]
  exact de_reverse hx h0 m0 ha hl
theorem ds_putT (hx : G.tab.lookup x = some i) (hv : DE G value S (en y) S1) (h0 : S1[i]? = some s) (m0 : Mine s (.lst ds)) (he : DE G e S1 (.int j) S2) (h1 : S2[i]? = some s1) (m1 : Mine s1 (.lst (xs.map Enc.enc))) (hj : setI xs j y = some ys)
    (hs : ∀ env, swapsWithSole [.Subscript (.Name x p1) e p2] value pos.line env = Pure.pure false := by intro _; rfl) (hw : ∀ env, swappedStores [.Subscript (.Name x p1) e p2] value env = Pure.pure none := by intro _; rfl)
    (ha : ∀ env, (assignEach [.Subscript (.Name x p1) e p2] env).map (·.2) = [assign (.Subscript (.Name x p1) e p2) env] := by intro _; rfl)
    (hg : ∀ env v, assign (.Subscript (.Name x p1) e p2) env v = (do
      let ov ← holding [v] (eval (.Name x p1) env)
      let iv ← holding [v, ov] (eval e env)
      standAt p2
      holding [v, ov, iv] (setItem ov iv v)
      release [v, ov, iv] []) := by intro _ _; rfl) : DS G (.Assign [.Subscript (.Name x p1) e p2] value pos) S (.nx (S2.set i (reob s1 (.lst (ys.map Enc.enc))))) := by
  obtain ⟨n, g1, g2⟩ := setI_ok (f := Enc.enc) hj
  rw [← g2]
  exact ds_put hx hv h0 m0 he h1 m1 g1 hs hw ha hg

/-! ### a statement while an own object is lent -/
def Rz.back (i : Nat) (s : Sl) : Rz → Rz
  | .nx S => .nx (S.set i s)
  | .bk S => .bk (S.set i s)
  | .ret r S => .ret r (S.set i s)
def Rz.sl : Rz → List Sl
  | .nx S => S
  | .bk S => S
  | .ret _ S => S
theorem ds_lend (hs : S[i]? = some s) (m : Mine s o) (h : DS G st (S.set i (.bor o)) R) (h1 : R.sl[i]? = some (.bor o)) (hr : ∀ r S', R = .ret r S' → ∃ d, r = .dat d := by intro _ _ z; cases z) : DS G st S (R.back i s) := by
  intro X ok
  refine PS_weak (h X ok) ?_
  rintro D σ H ⟨B, hh, kk⟩
  obtain ⟨p, er, h0, _⟩ := hh.lend hs m.or
  refine ⟨Bp B p, h0, ?_⟩
  cases R with
  | nx S' =>
    intro σ' H' h' r
    obtain ⟨h2, r2, av⟩ := hh.back (fun _ z => .inl z) hs m.or er h' r h1
    exact kk σ' H' h2 r2
  | bk S' =>
    intro σ' H' h' r
    obtain ⟨h2, r2, av⟩ := hh.back (fun _ z => .inl z) hs m.or er h' r h1
    exact kk σ' H' h2 r2
  | ret r S' =>
    intro v σ' H' h' r' q
    obtain ⟨h2, r2, av⟩ := hh.back (fun _ z => .inl z) hs m.or er h' r' h1
    obtain ⟨d, rfl⟩ := hr r S' rfl
    exact kk v σ' H' h2 r2 (Rep.car (Car.imp fun a z => (av a).mp z) q)
end
end Pw
namespace Pw
open PySem PySem.Spec L2
def isiD (t : String) : PyData → Bool
  | .bool _ => t == "bool" || t == "int"
  | .int _ => t == "int"
  | .str _ => t == "str"
  | .tuple _ => t == "tuple"
  | .list _ => t == "list"
  | _ => false
theorem kit_isi (d : PyData) {t : String} (h : t = "bool" ∨ t = "int" ∨ t = "str" ∨ t = "tuple") : kitB (tyD d) t = some (isiD t d) := by
  have hb : ∀ (u t : String), (t = "bool" ∨ t = "int" ∨ t = "str" ∨ t = "tuple") → (u = "NoneType" ∨ u = "bool" ∨ u = "int" ∨ u = "str" ∨ u = "list" ∨ u = "tuple" ∨ u = "dict") → kitB u t = some (t == u || (t == "int" && u == "bool")) := by
    rintro u t (rfl | rfl | rfl | rfl) (rfl | rfl | rfl | rfl | rfl | rfl | rfl) <;> decide +kernel
  have e : ∀ d, kitB (tyD d) t = some (t == tyD d || (t == "int" && tyD d == "bool")) := fun d => hb _ t h (by cases d <;> simp [tyD])
  rw [e]
  rcases h with rfl | rfl | rfl | rfl <;> cases d <;> rfl
def sameC (n : Nat) : Contract := fun T r T' => ∃ d1 d2 : PyData, T = [.dat d1, .dat d2] ∧ d1.plain = true ∧ d2.plain = true ∧ pur d2 = true ∧ d2.depth ≤ n ∧ r = .dat (.bool (sameD d1 d2)) ∧ T' = [.un, .un]
def stepSame (xs ys : List PyData) : Unit → Int → Option (Out Bool Unit) := fun _ k => (atI xs k).bind fun a => (atI ys k).bind fun b => some (if sameD a b = true then .nx () else .ret false)
theorem atI_natD {α : Type} {xs : List α} {k : Nat} (h : k < xs.length) : atI xs (k : Int) = some xs[k] := by
  unfold atI ixN
  rw [if_pos (by omega), if_pos (by omega)]
  show xs[((k : Int)).toNat]? = _
  rw [Int.toNat_natCast, List.getElem?_eq_getElem h]
theorem loop_same {xs ys : List PyData} (h : xs.length = ys.length) : ∀ m k : Nat, k + m = ys.length → loopM (stepSame xs ys) () ((rng 0 ys.length).drop k) = some (if sameAll (xs.drop k) (ys.drop k) = true then .nx () else .ret false)
  | 0, k, e => by
    rw [List.drop_eq_nil_of_le (by rw [rng_len]; omega), List.drop_eq_nil_of_le (by omega), List.drop_eq_nil_of_le (by omega)]
    simp [loopM, sameAll]
  | m + 1, k, e => by
    have hk : k < (rng 0 ys.length).length := by rw [rng_len]; omega
    rw [List.drop_eq_getElem_cons hk, List.drop_eq_getElem_cons (show k < xs.length by omega), List.drop_eq_getElem_cons (show k < ys.length by omega)]
    have ek : (rng 0 ys.length)[k] = (k : Int) := by
      have := rng_at (lo := 0) (hi := ys.length) (i := k) (by omega)
      rw [List.getElem?_eq_getElem hk] at this
      rw [Option.some.inj this]
      omega
    have hs : stepSame xs ys () (k : Int) = some (if sameD xs[k] ys[k] = true then .nx () else .ret false) := by
      unfold stepSame
      rw [atI_natD (show k < xs.length by omega), atI_natD (show k < ys.length by omega)]
      rfl
    rw [ek, loopM, hs]
    have ih := loop_same h m (k + 1) (by omega)
    unfold sameAll
    cases sameD xs[k] ys[k] with
    | true => exact ih
    | false => rfl
def vSame (n : Nat) : List (Str × Nat × Contract) := [("_law_same", 2, sameC n)]
theorem cr_neI {G : Cxt} {i j : Int} : CR G .NotEq (.int i) (.int j) (!decide (i = j)) := by
  have h := cr_neD (G := G) (d1 := .int i) (d2 := .int j) rfl rfl (.inl (Nat.zero_le _))
  have e : PyData.eqv (.int i) (.int j) = decide (i = j) := Enc.eqv i j
  rw [e] at h
  exact h
theorem sameD_ty {d : PyData} {xs : List PyData} (h : isiD "tuple" d = false) : sameD d (.tuple xs) = false := by
  cases d <;> first | (simp [isiD] at h; done) | simp [sameD]
theorem plainAll_mem : ∀ {xs : List PyData} {a : PyData}, PyData.plainAll xs = true → a ∈ xs → a.plain = true
  | x :: xs, a, h, m => by
    unfold PyData.plainAll at h
    rw [Bool.and_eq_true] at h
    rcases List.mem_cons.mp m with rfl | m
    · exact h.1
    · exact plainAll_mem h.2 m
theorem purs_mem : ∀ {xs : List PyData} {a : PyData}, purs xs = true → a ∈ xs → pur a = true
  | x :: xs, a, h, m => by
    rw [purs_cons, Bool.and_eq_true] at h
    rcases List.mem_cons.mp m with rfl | m
    · exact h.1
    · exact purs_mem h.2 m
theorem depthAll_mem : ∀ {xs : List PyData} {a : PyData}, a ∈ xs → a.depth ≤ PyData.depthAll xs
  | x :: xs, a, m => by
    unfold PyData.depthAll
    rcases List.mem_cons.mp m with rfl | m
    · exact Nat.le_max_left _ _
    · exact Nat.le_trans (depthAll_mem m) (Nat.le_max_right _ _)
theorem same_turn {G : Cxt} {c : Bool} {e : Expr} {p1 p3 p4 p5 : Pos} {j : Nat} {d1 d2 d3 : PyData} {out : Out Bool Unit} (h : DE G e [.dat d1, .dat d2, .dat d3] (.bool c) [.dat d1, .dat d2, .dat d3]) (ho : some (if c = true then Out.nx () else Out.ret false) = some out)
    (he : ∀ env whole, isTrue e env whole = (do let v ← whole; standAt e.pos; holding [v] (truthy v)) := by intro _ _; rfl) : DSs G [.If (.UnaryOp .Not e p1) [.Return (some (.Constant (.bool false) j p3)) p4] [] p5] [.dat d1, .dat d2, .dat d3] (rzo (fun _ => [.dat d1, .dat d2, .un]) (fun b => .dat (.bool b)) (fun _ => [.dat d1, .dat d2, .un]) out) := by
  have ho := Option.some.inj ho
  cases c with
  | true =>
    subst ho
    exact dss_cons (ds_if (dt_not (dt_val h he)) (fun z => by cases z) (fun _ => dss_nil .refl)) (dss_nil (.eq (.eq (.un rfl .nil))))
  | false =>
    subst ho
    exact dss_end (ds_if (dt_not (dt_val h he)) (fun _ => dss_end (ds_le (ds_ret de_bl) (.ret (.eq (.eq (.un rfl .nil)))))) (fun z => by cases z))
theorem inj_p {α β : Type} {x y : α} {u v : β} (h : some (x, u) = some (y, v)) : x = y ∧ u = v := by
  have h := Option.some.inj h
  exact ⟨congrArg Prod.fst h, congrArg Prod.snd h⟩
theorem inj_r {α : Type} {x y : α} (h : some x = some y) : x = y := Option.some.inj h
theorem ds_eqS {G : Cxt} {st : Stmt} {S S1 S2 : List Sl} (h : DS G st S (.nx S1)) (e : S1 = S2) : DS G st S (.nx S2) := e ▸ h
theorem outC_nx {ρ τ γ : Type} {t : τ} {kr : ρ → Option γ} {kn : τ → Option γ} {r : γ} (h : outC (.nx t) kr kn = some r) : kn t = some r := h
theorem outC_ret {ρ τ γ : Type} {t : ρ} {kr : ρ → Option γ} {kn : τ → Option γ} {r : γ} (h : outC (.ret t) kr kn = some r) : kr t = some r := h
theorem de_sameT {G : Cxt} {S S1 : List Sl} {e : Expr} {es : List Expr} {p1 pos : Pos} {α : Type} [DecidableEq α] [Enc α] {x y : α} (hf : G.fns.lookup ("_law_same" : Str) = some (2, sameC 8)) (ha : DA G (e :: es) S [.dat (en x), .dat (en y)] S1) (hd : Enc.dp α ≤ 8 := by decide)
    (he : ∀ env, starEach (e :: es) env = (false, eval e env) :: starEach es env := by intro _; rfl) (hpl : ∀ env, (backTo pos (starEach es env)).any (·.1) = false := by intro _; rfl) : DE G (.Call (.Name "_law_same" p1) (e :: es) [] pos) S (.bool (decide (x = y))) S1 := by
  have := de_call (p1 := p1) (pos := pos) (d := .bool (sameD (en x) (en y))) (C := sameC 8) (n := 2) (T' := [.un, .un]) hf ha (.dat (.dat .nil)) ⟨en x, en y, rfl, Enc.plain x, Enc.plain y, Enc.pure y, Nat.le_trans (Enc.depth y) hd, rfl, rfl⟩ .none rfl rfl rfl he hpl
  rw [Enc.same] at this
  exact this
theorem beh {S S2 T' : List Sl} {i : Nat} {s : Sl} {o' : Ob} (h1 : S[i]? = some s) (h2 : ioOb T' = some o') (e : S.set i (reob s o') = S2) : Behind S (some i) T' S2 := e ▸ .some h1 h2
theorem sp_law {K : PySem.W.Frag} {C : Contract} (h : ∀ ns : List Int, ns.length ≤ 63 → C [.bor (.lst (List.map Enc.enc ns))] (.dat (en true)) [.un]) {H : Hp} {a : Addr} {ns : List Int} {E : XK} (hl : ns.length ≤ 63) (hS : SqL K H a (ns.map V.int)) : spC K 1 C [.ref a] H (fun v _ => v = .bl true) E := by
  have rp : ∀ (A : AP) (xs : List Int), Reps K A H (xs.map V.int) (xs.map Enc.enc) := fun A xs => by
    induction xs with
    | nil => exact .nil
    | cons x xs ih => exact .cons (.int x) ih
  have no : ∀ b, ¬ OwnA [Sl.bor (.lst (List.map Enc.enc ns))] ([some (V.ref a)] : L2.St) b := fun b ⟨i, s, e, ho, _⟩ => by
    match i, e with
    | 0, e => cases e; cases ho
    | i + 1, e => simp at e
  refine ⟨_, _, _, h ns hl, rfl, rfl, fun s hs => (by cases hs with | head => rfl | tail _ hs => exact (by cases hs)), ⟨rfl, fun i s e => ?_, fun i j s t b e1 e2 o1 => ?_, fun _ z => z.elim⟩, fun v H' f => ?_⟩
  · match i, e with
    | 0, e => cases e; exact ⟨a, rfl, _, LAt.of_sq hS (no a), rp _ ns⟩
    | i + 1, e => simp at e
  · match i, e1 with
    | 0, e => cases e; cases o1
    | i + 1, e => simp at e
  · exact rep_bl f.res.2
end Pw
namespace Pw
open PySem PySem.Spec L2
section
variable {α β τ ρ : Type} {G : Cxt} {S S' S1 S2 S3 : List Sl} {a b c e f tg value : Expr} {es rest : List Expr} {body sts : List Stmt} {st : Stmt} {d d1 d2 : PyData} {ds ds1 ds2 : List PyData} {o o' : Ob} {s s1 : Sl} {pos p1 p2 p3 : Pos} {K : PySem.W.Frag} {A B : AP} {σ σ' : L2.St} {H H' : Hp} {p : Addr} {v : V} {k1 k2 : Bool} {i j : Nat} {x y : Str} {R : Rz} {m n : Int}
/-! ### += -/
theorem ds_augI (hx : G.tab.lookup x = some i) (hl : G.loc.elem x = true) (h0 : S[i]? = some (.dat (.int m))) (he : DE G e S (.int n) S1) (hio : noIo S1 i = true := by rfl) : DS G (.AugAssign (.Name x p1) .Add e pos) S (.nx (S1.set i (.dat (.int (m + n))))) := fun X ok => by
  obtain ⟨h1, _⟩ := ok.var hx
  obtain ⟨l1, l2⟩ := ok.st (elem_mem hl)
  refine PS_weak (ps_aug ok.nd h1 l1 (he X ok) ip_add l2) fun D σ H ⟨B, hh, k⟩ => ?_
  obtain ⟨v, ev, rv⟩ := hh.dat h0
  refine ⟨v, ev, B, hh, fun w H1 hh1 r1 q1 => ⟨m, n, rep_int rv, rep_int q1, ?_⟩⟩
  exact k _ H1 (hh1.setD (.int (m + n))) (r1.trans (Rel.set (noIo_of hio) rfl rfl fun z => by cases z))
/-- xs += new list -/
def rExtN : TIp := fun x y H Q => ∃ l b xs zs, x = .ref l ∧ y = .ref b ∧ H l = some (.lst xs) ∧ H b = some (.lst zs) ∧ xs.length + zs.length ≤ sizeLine ∧ Q (.ref l) (upd H l (.lst (xs ++ zs)))
theorem ip_ext {X : Cx} : PIp X .Add rExtN := fun pins s σ H x y v u Q I rx ry q => iop_ext pins s σ H x y v u Q I rx ry q
theorem st_same {σ : L2.St} {i : Nat} {v : V} (h : σ[i]? = some (some v)) : σ.set i (some v) = σ := by
  apply List.ext_getElem?
  intro j
  by_cases e : i = j
  · subst e
    rw [List.getElem?_set_self (List.getElem?_eq_some_iff.mp h).1, h]
  · rw [List.getElem?_set_ne e]
theorem ds_augL (hx : G.tab.lookup x = some i) (hl : G.loc.elem x = true) (h0 : S[i]? = some s) (m0 : Mine s (.lst ds)) (he : DF G e S (.lst ds2) S1) (h1 : S1[i]? = some s1) (m1 : Mine s1 (.lst ds1)) (hz : ds1.length + ds2.length ≤ sizeLine) : DS G (.AugAssign (.Name x p1) .Add e pos) S (.nx (S1.set i (reob s1 (.lst (ds1 ++ ds2))))) := fun X ok => by
  obtain ⟨g1, _⟩ := ok.var hx
  obtain ⟨l1, l2⟩ := ok.st (elem_mem hl)
  refine PS_weak (ps_aug ok.nd g1 l1 (he X ok) ip_ext l2) fun D σ H ⟨B, hh, k⟩ => ?_
  obtain ⟨p, er, xs, ex, rx⟩ := hh.mine h0 m0
  refine ⟨.ref p, er, B, hh, fun q H1 hq nq hh1 r1 ⟨zs, ez, rz⟩ => ?_⟩
  obtain ⟨p', er', ys, ey, ry⟩ := hh1.mine h1 m1
  rw [er] at er'; cases er'
  refine ⟨p, q, ys, zs, rfl, rfl, ey, ez, by rw [ry.length, rz.length]; exact hz, ?_⟩
  have ow : OwnA S1 σ p := ⟨i, s1, h1, m1.ow, er⟩
  obtain ⟨a1, a2⟩ := hh1.unP.updO (u := .lst (ys ++ zs)) (o' := .lst (ds1 ++ ds2)) h1 m1 er trivial ⟨_, upd_same, ((ry.car Car.unP).append (rz.car Car.unP)).upd ow⟩
  show D.nx (σ.set i (some (.ref p))) _
  rw [st_same er]
  exact k σ _ a1 (r1.trans a2)

/-! ### two names at once -/
theorem sw_two {env : Env} {kt k2 : Nat} {px py pt pt2 : Pos} (hk : env.scope.kind = .function) (hx : env.scope.names.lookup x = some .local) (hy : env.scope.names.lookup y = some .local) (hl : (py.line == px.line) = true) (hne : (x == y) = false)
    (ns : ([a, b].any fun | .Starred .. => true | _ => false) = false) (hf : [a, b].all (foldedForSure 8) = false) (hc : [a, b].all (constantsAlone 8) = false) : swappedStores [.Tuple [.Name x px, .Name y py] kt pt] (.Tuple [a, b] k2 pt2) env = Pure.pure (some [x, y]) := by
  have kx : env.kindOf x = some .local := hx
  have ky : env.kindOf y = some .local := hy
  have hb : env.blockKind = .function := by unfold Env.blockKind; rw [hk]; rfl
  have hne' : (y == x) = false := by
    rw [beq_eq_false_iff_ne] at hne ⊢
    exact fun z => hne z.symm
  have hl' : py.line = px.line := eq_of_beq hl
  have e2 : [x, y].eraseDups = [x, y] := by simp [List.eraseDups_cons, hne']
  unfold swappedStores
  simp only [hb, pure_bind]
  rw [if_neg (by simp)]
  generalize hn : List.any [a, b] _ = q0
  have hn2 : q0 = false := hn.symm.trans ns
  subst hn2
  rw [if_neg Bool.false_ne_true]
  generalize hq : List.filterMap _ [Expr.Name x px, Expr.Name y py] = q
  have hq2 : q = [x, y] := by rw [← hq]; simp [kx, ky, hl', Expr.pos]
  subst hq2
  rw [if_neg (by rw [e2]; simp), if_neg (by rw [hf]; exact Bool.false_ne_true), if_neg (by rw [hc]; exact Bool.false_ne_true)]
theorem Cxt.Ok.kindL {X : Cx} (ok : G.Ok X) (hk : isLoc G.sc x = true) : X.env.scope.kind = .function ∧ X.env.scope.names.lookup x = some .local := by
  rw [ok.sc]
  exact isLoc_of hk
theorem ds_par {kt k2 : Nat} {px py pt pt2 : Pos} (hi : G.tab.lookup x = some i) (hj : G.tab.lookup y = some j) (hij : i ≠ j) (hkx : isLoc G.sc x = true) (hky : isLoc G.sc y = true) (ha : DE G a S d1 S1) (hb : DE G b S1 d2 S2) (hio : noIo S2 i = true := by rfl) (hjo : noIo (S2.set i (.dat d1)) j = true := by rfl)
    (hl : (py.line == px.line) = true := by rfl) (hne : (x == y) = false := by decide) (ns : ([a, b].any fun | .Starred .. => true | _ => false) = false := by rfl) (hf : [a, b].all (foldedForSure 8) = false := by rfl) (hc : [a, b].all (constantsAlone 8) = false := by rfl)
    (hs : ∀ env, starEach [a, b] env = (false, eval a env) :: starEach [b] env := by intro _; rfl) (hs2 : ∀ env, starEach [b] env = (false, eval b env) :: starEach [] env := by intro _; rfl)
    (hsw : ∀ env, swapsWithSole [.Tuple [.Name x px, .Name y py] kt pt] (.Tuple [a, b] k2 pt2) pos.line env = Pure.pure false := by intro _; rfl) :
    DS G (.Assign [.Tuple [.Name x px, .Name y py] kt pt] (.Tuple [a, b] k2 pt2) pos) S (.nx ((S2.set i (.dat d1)).set j (.dat d2))) := fun X ok => by
  obtain ⟨k1, k2⟩ := ok.kindL hkx
  obtain ⟨k3, k4⟩ := ok.kindL hky
  refine PS_weak (ps_par ok.calm ok.nd (ok.var hi).1 (ok.var hj).1 hij k2 k4 (dd_two ha hb hs hs2 X ok) (sw_two k1 k2 k4 hl hne ns hf hc) (hsw _)) fun D σ H ⟨B, hh, k⟩ => ⟨B, hh, fun vs H1 h1 r1 q1 => ?_⟩
  obtain ⟨v, w, rfl, rv, rw'⟩ := reps_two q1
  refine ⟨v, w, rfl, ?_⟩
  have h2 := h1.setD (i := i) rv
  have r2 : Rel S2 σ H1 (S2.set i (.dat d1)) (σ.set i (some v)) H1 := Rel.set (noIo_of hio) rfl rfl fun z => by cases z
  have h3 := h2.setD (i := j) (rw'.car r2.car)
  exact k _ H1 h3 ((r1.trans r2).trans (Rel.set (noIo_of hjo) rfl rfl fun z => by cases z))
theorem ds_asgS {tg : Expr} {ix : List Nat} (he : DE G e S d S1) (hg : DG G tg ix S1 d S2) (hw : ∀ env, env.scope = G.sc → swappedStores [tg] e env = Pure.pure none) (hs : ∀ env, swapsWithSole [tg] e pos.line env = Pure.pure false := by intro _; rfl)
    (h1 : ∀ env, (assignEach [tg] env).map (·.2) = [assign tg env] := by intro _; rfl) : DS G (.Assign [tg] e pos) S (.nx S2) := fun X ok =>
  PS_weak (ps_asg (he X ok) (hg X ok) (hs _) (hw _ ok.sc) (h1 _)) fun D σ H ⟨B, hh, k⟩ => ⟨B, hh, fun v H1 h1 r1 q1 => ⟨B, h1, q1, fun σ2 H2 h2 r2 _ => k σ2 H2 h2 (r1.trans r2)⟩⟩

/-! ### lists put together -/
theorem df_catL (ha : DF G a S (.lst ds1) S1) (hb : DF G b S1 (.lst ds2) S2) (hz : ds1.length + ds2.length ≤ sizeLine) : DF G (.BinOp a .Add b pos) S (.lst (ds1 ++ ds2)) S2 := fun X ok =>
  PE_weak (pe_op op_cat (ha X ok) (hb X ok)) fun σ H Q ⟨B, hh, k⟩ => ⟨B, hh, fun p H1 hp np h1 r1 ⟨xs, ex, rx⟩ => ⟨Bp B p, h1, fun q H2 hq nq h2 r2 ⟨ys, ey, ry⟩ => by
    have np2 := r2.ownKeep np ex
    refine ⟨p, q, xs, ys, rfl, rfl, np2.2, ey, by rw [rx.length, ry.length]; exact hz, fun n hn => ?_⟩
    have rr := r1.trans r2
    have h3 : Holds X.K B S2 σ H2 := h2.unP.unP
    refine k n _ (rr.free hn) (h3.free hn) (h3.newB hn trivial) (rr.trans (Rel.same (upd_keep hn))) ⟨xs ++ ys, upd_same, ?_⟩
    exact Reps.new (((rx.car r2.car).car Car.unP).append ((ry.car Car.unP).car Car.unP)) (upd_keep hn) hn⟩⟩
end
end Pw
namespace Pw
open PySem PySem.Spec L2

/-! ### lists put together, whatever they are -/
section
open PyProof.Rows PySem.SeqAt PySem.AutoSeq1
theorem add_any (l b : Addr) (xs ys : Array Value) (n m : Nat) (sl sk : Array (Option Value)) (hz : xs.size + ys.size ≤ sizeLine) :
    Meets (Builtin.«list.__add__» ⟨[.ref l, .ref b], []⟩) (fun _ R s => s.heap.get? l = some { cls := .type "list", dict := none, data := .seq xs n, slots := sl } ∧ s.heap.get? b = some { cls := .type "list", dict := none, data := .seq ys m, slots := sk } ∧ R (.ok (.ret (Value.ref s.heap.objs.size))) { s with heap := s.heap.push { cls := Value.type "list", data := Data.seq (xs ++ ys) }, toks := s.toks }) :=
  .of_wp fun prog w A R s h => by
    obtain ⟨hp, g, d, tk, os⟩ := s
    obtain ⟨e1, e2, h⟩ := h
    have g1 := PySem.AutoSeq1.idx_int; have g2 := PySem.AutoSeq1.sub_tuple_tuple; have g3 := PySem.AutoSeq1.sub_list_list; have g4 := PySem.AutoSeq1.sub_tuple_list; have g5 := PySem.AutoSeq1.sub_list_tuple
    wp_walk using wpAny_loadPart' e1, wpAny_loadPart' e2
    exact ⟨_, rfl, h⟩
end
section
variable {α β τ ρ : Type} {G : Cxt} {S S' S1 S2 S3 : List Sl} {a b c e f tg value : Expr} {es rest : List Expr} {body sts : List Stmt} {st : Stmt} {d d1 d2 : PyData} {ds ds1 ds2 : List PyData} {o o' : Ob} {s s1 : Sl} {pos p1 p2 p3 : Pos} {K : PySem.W.Frag} {A B : AP} {σ σ' : L2.St} {H H' : Hp} {p : Addr} {v : V} {k1 k2 : Bool} {i j : Nat} {x y : Str} {R : Rz} {m n : Int}
def rCatS (K : PySem.W.Frag) : R2 := fun x y H Q => ∃ l b xs zs, x = .ref l ∧ y = .ref b ∧ SqL K H l xs ∧ SqL K H b zs ∧ xs.length + zs.length ≤ sizeLine ∧ ∀ p, H p = none → Q (.ref p) (upd H p (.lst (xs ++ zs)))
theorem op_catS {X : Cx} : OpR X (binaryOp .Add) (rCatS X.K) := fun pins s σ H x y v u Q I rx ry ⟨l, b, xs, zs, e1, e2, h1, h2, hz, q⟩ => by
  subst e1 e2
  cases rx
  cases ry
  obtain ⟨its, r, ⟨⟨c1, d1, a1, s1⟩, n, g, hc, hd, hdt⟩, z⟩ := I.list h1
  obtain ⟨its2, r2, ⟨⟨c2, d2, a2, s2⟩, n2, g2, hc2, hd2, hdt2⟩, z2⟩ := I.list h2
  simp only at hc hd hdt hc2 hd2 hdt2
  subst hc hd hdt hc2 hd2 hdt2
  have l1 := r.length
  have l2 := r2.length
  refine PySem.concat_meets ⟨_, g, rfl⟩ ⟨_, g2, rfl⟩ PySem.noFill_list_add PySem.seq_list_add PySem.F.slot_list_add PySem.F.entry_list_add (PySem.F.args_list_add_2 _ _) (add_any l b its.toArray its2.toArray n n2 s1 s2 (by rw [List.size_toArray, List.size_toArray]; omega)) ⟨g, g2, ?_⟩
  have ea : its.toArray ++ its2.toArray = (its ++ its2).toArray := by simp
  rw [ea]
  exact ⟨.ref _, _, I.lnew (t' := s.toks) (r.append r2) (by rw [List.length_append]; omega), rfl, q _ I.fresh⟩
theorem df_catB (ha : DB G a S (.lst ds1) S1) (hb : DB G b S1 (.lst ds2) S2) (hz : ds1.length + ds2.length ≤ sizeLine) : DF G (.BinOp a .Add b pos) S (.lst (ds1 ++ ds2)) S2 := fun X ok =>
  PE_weak (pe_op op_catS (ha X ok) (hb X ok)) fun σ H Q ⟨B, hh, k⟩ => ⟨B, hh, fun p H1 h1 r1 q1 => ⟨B, h1, fun q H2 h2 r2 ⟨ys, ly, ry⟩ => by
    obtain ⟨xs, lx, rx⟩ := ObRd.car (o := .lst ds1) r2.car r2.cdO q1
    refine ⟨p, q, xs, ys, rfl, rfl, lx.sq, ly.sq, by rw [rx.length, ry.length]; exact hz, fun n hn => ?_⟩
    have rr := r1.trans r2
    exact k n _ (rr.free hn) (h2.free hn) (h2.newB hn trivial) (rr.trans (Rel.same (upd_keep hn))) ⟨xs ++ ys, upd_same, (rx.append ry).new (upd_keep hn) hn⟩⟩⟩
/-- [..] * n -/
theorem df_repF (ha : DF G a S (.lst ds1) S1) (hb : DE G b S1 (.int n) S2) (hn : -(2 ^ 63) ≤ n ∧ n < 2 ^ 63) (hz : ds1.length * n.toNat ≤ sizeLine) : DF G (.BinOp a .Mult b pos) S (.lst (List.replicate n.toNat ds1).flatten) S2 := fun X ok =>
  PE_weak (pe_op op_rep (ha X ok) (hb X ok)) fun σ H Q ⟨B, hh, k⟩ => ⟨B, hh, fun p H1 hp np h1 r1 ⟨xs, ex, rx⟩ => ⟨Bp B p, h1, fun v H2 h2 r2 q2 => by
    have np2 := r2.ownKeep np ex
    refine ⟨p, n, xs, rfl, rep_int q2, np2.2, hn.1, hn.2, by rw [rx.length]; exact hz, fun q hq => ?_⟩
    have rr := r1.trans r2
    have h3 : Holds X.K B S2 σ H2 := h2.unP
    refine k q _ (rr.free hq) (h3.free hq) (h3.newB hq trivial) (rr.trans (Rel.same (upd_keep hq))) ⟨_, upd_same, ?_⟩
    have rr2 : ∀ k : Nat, Reps X.K (Av S2 σ B) H2 (List.replicate k xs).flatten (List.replicate k ds1).flatten := fun k => by
      induction k with
      | zero => exact .nil
      | succ k ih =>
        rw [List.replicate_succ, List.replicate_succ, List.flatten_cons, List.flatten_cons]
        exact ((rx.car r2.car).car Car.unP).append ih
    exact (rr2 _).new (upd_keep hq) hq⟩⟩

/-! ### sum, any, all -/
theorem reps_intsV : ∀ {vs : List V} {xs : List Int}, Reps K A H vs (xs.map PyData.int) → vs = xs.map V.int
  | _, [], .nil => rfl
  | _, x :: xs, .cons r t => by rw [List.map_cons, rep_int r, reps_intsV t]
theorem reps_blsV : ∀ {vs : List V} {xs : List Bool}, Reps K A H vs (xs.map PyData.bool) → vs = xs.map V.bl
  | _, [], .nil => rfl
  | _, x :: xs, .cons r t => by rw [List.map_cons, rep_bl r, reps_blsV t]
theorem de_sumL {xs : List Int} (hx : G.blt.elem ("sum" : Str) = true) (h : DB G e S (.lst (xs.map Enc.enc)) S1) (hs : ∀ env, starEach [e] env = (false, eval e env) :: starEach [] env := by intro _; rfl) (hp : ∀ env, (backTo pos (starEach ([] : List Expr) env)).any (·.1) = false := by intro _; rfl) : DE G (.Call (.Name "sum" p1) [e] [] pos) S (.int xs.sum) S1 := fun X ok => by
  obtain ⟨hg, hm, _, _⟩ := ok.gl (elem_mem hx)
  refine PE_weak (pe_callB (cr_sum ok.calm) hg hm bo_sum (pa_b (h X ok) (hs _)) (by decide) (by decide) (hs _) (hp _)) fun σ H Q ⟨B, hh, k⟩ => ⟨B, hh, fun p H1 h1 r1 ⟨vs, la, rs⟩ => ?_⟩
  have := reps_intsV rs
  subst this
  exact ⟨p, xs, rfl, la.sq, k _ H1 h1 r1 (.int _)⟩
theorem de_anyL {xs : List Bool} (hx : G.blt.elem ("any" : Str) = true) (h : DB G e S (.lst (xs.map Enc.enc)) S1) (hs : ∀ env, starEach [e] env = (false, eval e env) :: starEach [] env := by intro _; rfl) (hp : ∀ env, (backTo pos (starEach ([] : List Expr) env)).any (·.1) = false := by intro _; rfl) : DE G (.Call (.Name "any" p1) [e] [] pos) S (.bool (xs.any id)) S1 := fun X ok => by
  obtain ⟨hg, hm, _, _⟩ := ok.gl (elem_mem hx)
  refine PE_weak (pe_callB (cr_any ok.calm) hg hm bo_any (pa_b (h X ok) (hs _)) (by decide) (by decide) (hs _) (hp _)) fun σ H Q ⟨B, hh, k⟩ => ⟨B, hh, fun p H1 h1 r1 ⟨vs, la, rs⟩ => ?_⟩
  have := reps_blsV rs
  subst this
  exact ⟨p, xs, rfl, la.sq, k _ H1 h1 r1 (.bl _)⟩
theorem de_allL {xs : List Bool} (hx : G.blt.elem ("all" : Str) = true) (h : DB G e S (.lst (xs.map Enc.enc)) S1) (hs : ∀ env, starEach [e] env = (false, eval e env) :: starEach [] env := by intro _; rfl) (hp : ∀ env, (backTo pos (starEach ([] : List Expr) env)).any (·.1) = false := by intro _; rfl) : DE G (.Call (.Name "all" p1) [e] [] pos) S (.bool (xs.all id)) S1 := fun X ok => by
  obtain ⟨hg, hm, _, _⟩ := ok.gl (elem_mem hx)
  refine PE_weak (pe_callB (cr_all ok.calm) hg hm bo_all (pa_b (h X ok) (hs _)) (by decide) (by decide) (hs _) (hp _)) fun σ H Q ⟨B, hh, k⟩ => ⟨B, hh, fun p H1 h1 r1 ⟨vs, la, rs⟩ => ?_⟩
  have := reps_blsV rs
  subst this
  exact ⟨p, xs, rfl, la.sq, k _ H1 h1 r1 (.bl _)⟩

/-! ### max, min of alike data -/
def maxE {α : Type} [DecidableEq α] [Enc α] : List α → Option α
  | [] => none
  | x :: xs => some (xs.foldl (fun a y => if PySem.W.dataLt (Enc.enc a) (Enc.enc y) = true then y else a) x)
def minE {α : Type} [DecidableEq α] [Enc α] : List α → Option α
  | [] => none
  | x :: xs => some (xs.foldl (fun a y => if PySem.W.dataLt (Enc.enc y) (Enc.enc a) = true then y else a) x)
section
variable {α : Type} [DecidableEq α] [Enc α]
theorem maxE_D (x : α) : ∀ xs : List α, PySem.W.maxD (Enc.enc x) (xs.map Enc.enc) = Enc.enc (xs.foldl (fun a y => if PySem.W.dataLt (Enc.enc a) (Enc.enc y) = true then y else a) x) := fun xs => by
  unfold PySem.W.maxD
  induction xs generalizing x with
  | nil => rfl
  | cons y ys ih =>
    rw [List.map_cons, List.foldl_cons, List.foldl_cons, ← ih]
    by_cases h : PySem.W.dataLt (Enc.enc x) (Enc.enc y) = true <;> simp [h]
theorem minE_D (x : α) : ∀ xs : List α, PySem.W.minD (Enc.enc x) (xs.map Enc.enc) = Enc.enc (xs.foldl (fun a y => if PySem.W.dataLt (Enc.enc y) (Enc.enc a) = true then y else a) x) := fun xs => by
  unfold PySem.W.minD
  induction xs generalizing x with
  | nil => rfl
  | cons y ys ih =>
    rw [List.map_cons, List.foldl_cons, List.foldl_cons, ← ih]
    by_cases h : PySem.W.dataLt (Enc.enc y) (Enc.enc x) = true <;> simp [h]
/-- the best of a list or a tuple that reads as ds -/
def rBest (K : PySem.W.Frag) (r : PyData) (ds : List PyData) : List V → Hp → VK → Prop := fun vs H Q => ∃ A a xs, vs = [.ref a] ∧ (SqL K H a xs ∨ SqT K H a xs) ∧ Reps K A H xs ds ∧ ∀ z, Rep K A H z r → Q z H
theorem best_at {X : Cx} {pins : List (Addr × Obj)} {s : Shared} {h' : Heap} {tk : Nat} {A : AP} {xs : List V} {its : List Value} {ds : List PyData} {r : PyData} {w : Value} {bs : List Addr} {n : Nat} {Q : VK} (I : Inv X pins σ H s) (rv : Vals xs its) (rs : Reps X.K A H xs ds) (hal : ∀ x ∈ ds, PySem.W.alike x r = true) (hi : its[n]? = some w) (hr : PySem.Reads h' w r bs) (hk : ∀ b o, s.heap.get? b = some o → h'.get? b = some o)
    (q : ∀ z, Rep X.K A H z r → Q z H) : EP X pins σ Q w { s with heap := h', toks := tk } := by
  obtain ⟨z, ez, rz⟩ : ∃ z, xs[n]? = some z ∧ RelV z w := by
    have := rv.length
    have hlt : n < xs.length := by rw [this]; exact (List.getElem?_eq_some_iff.mp hi).1
    obtain ⟨w', e, r⟩ := rv.get (List.getElem?_eq_getElem hlt)
    rw [hi] at e; cases e
    exact ⟨_, List.getElem?_eq_getElem hlt, r⟩
  obtain ⟨d, ed, rd⟩ := rs.get' ez
  obtain ⟨as, r1⟩ := rd.reads I rz
  have e := PySem.W.alike_unique _ _ _ _ _ (hal d (List.mem_of_getElem? ed)) (PyProof.Rows.Reads.keeps hk r1) hr
  subst e
  exact ⟨z, H, I.kept hk, rz, q z rd⟩
theorem cr_maxD {X : Cx} (ok : G.Ok X) {x : PyData} {xs : List PyData} (ha : PySem.W.AlikeAll (x :: xs)) (hz : PyData.depthAll (x :: xs) ≤ 100) (hm : PySem.W.maxD x xs ∈ x :: xs) : CallR X (.builtin "max") (rBest X.K (PySem.W.maxD x xs) (x :: xs)) := fun pins s σ H vs us Q I r ⟨A, a, ys, e, hs, rs, q⟩ => by
  subst e
  rw [Vals.ref1 r]
  have hu : X.A.units + 1 + PyData.depthAll (x :: xs) < cLine := by have := ok.un; omega
  have hal : ∀ d ∈ x :: xs, PySem.W.alike d (PySem.W.maxD x xs) = true := fun d hd => ha.1 d hd _ hm
  rcases hs with hs | hs
  · obtain ⟨its, rv, pl, _⟩ := I.list hs
    obtain ⟨as, ra⟩ : ∃ as, PySem.ReadsAll s.heap its (x :: xs) as := Dp.readsAll I _ _ _ rs.dp rv
    exact PySem.W.max_list_data (I.ok.hd ok.calm) pl.isList (by simpa using ra) ha hu fun n w h' tk bs hi hr hk => best_at I rv rs hal (by simpa using hi) hr hk q
  · obtain ⟨its, rv, pl, _⟩ := I.tuple hs
    obtain ⟨as, ra⟩ : ∃ as, PySem.ReadsAll s.heap its (x :: xs) as := Dp.readsAll I _ _ _ rs.dp rv
    exact PySem.W.max_tuple_data (I.ok.hd ok.calm) pl (by simpa using ra) ha hu fun n w h' tk bs hi hr hk => best_at I rv rs hal (by simpa using hi) hr hk q
theorem cr_minD {X : Cx} (ok : G.Ok X) {x : PyData} {xs : List PyData} (ha : PySem.W.AlikeAll (x :: xs)) (hz : PyData.depthAll (x :: xs) ≤ 100) (hm : PySem.W.minD x xs ∈ x :: xs) : CallR X (.builtin "min") (rBest X.K (PySem.W.minD x xs) (x :: xs)) := fun pins s σ H vs us Q I r ⟨A, a, ys, e, hs, rs, q⟩ => by
  subst e
  rw [Vals.ref1 r]
  have hu : X.A.units + 1 + PyData.depthAll (x :: xs) < cLine := by have := ok.un; omega
  have hal : ∀ d ∈ x :: xs, PySem.W.alike d (PySem.W.minD x xs) = true := fun d hd => ha.1 d hd _ hm
  rcases hs with hs | hs
  · obtain ⟨its, rv, pl, _⟩ := I.list hs
    obtain ⟨as, ra⟩ : ∃ as, PySem.ReadsAll s.heap its (x :: xs) as := Dp.readsAll I _ _ _ rs.dp rv
    exact PySem.W.min_list_data (I.ok.hd ok.calm) pl.isList (by simpa using ra) ha hu fun n w h' tk bs hi hr hk => best_at I rv rs hal (by simpa using hi) hr hk q
  · obtain ⟨its, rv, pl, _⟩ := I.tuple hs
    obtain ⟨as, ra⟩ : ∃ as, PySem.ReadsAll s.heap its (x :: xs) as := Dp.readsAll I _ _ _ rs.dp rv
    exact PySem.W.min_tuple_data (I.ok.hd ok.calm) pl (by simpa using ra) ha hu fun n w h' tk bs hi hr hk => best_at I rv rs hal (by simpa using hi) hr hk q
theorem fold_mem {α : Type} {f : α → α → Bool} : ∀ (xs : List α) (x : α), xs.foldl (fun a y => if f a y = true then y else a) x ∈ x :: xs
  | [], x => List.mem_cons_self
  | y :: ys, x => by
    rw [List.foldl_cons]
    have h := fold_mem (f := f) ys (if f x y = true then y else x)
    rcases List.mem_cons.mp h with h | h
    · rw [h]
      split
      · exact List.mem_cons_of_mem _ List.mem_cons_self
      · exact List.mem_cons_self
    · exact List.mem_cons_of_mem _ (List.mem_cons_of_mem _ h)
section
variable {α : Type} [DecidableEq α] [Enc α] [EncN α] [EncL α] {xs : List α} {y : α}
theorem alikeE (x : α) (xs : List α) : PySem.W.AlikeAll (Enc.enc x :: xs.map Enc.enc) := by
  have e : Enc.enc x :: xs.map Enc.enc = (x :: xs).map Enc.enc := rfl
  rw [e]
  refine ⟨fun a ha b hb => ?_, fun a ha => ?_⟩
  · obtain ⟨p, _, rfl⟩ := List.mem_map.mp ha
    obtain ⟨q, _, rfl⟩ := List.mem_map.mp hb
    exact EncL.al p q
  · obtain ⟨p, _, rfl⟩ := List.mem_map.mp ha
    exact EncN.nn p
theorem de_bestB {nm : Str} {id : String} {rr : PyData} (hx : G.blt.elem nm = true) (hv : bootBuiltins nm = some (.builtin id)) (hn : nm ≠ "__name__") (hdb : (nm == ("__debug__" : Str)) = false) (h : DB G e S (.lst ds) S1) (cr : ∀ X, G.Ok X → CallR X (.builtin id) (rBest X.K rr ds)) (hs : ∀ env, starEach [e] env = (false, eval e env) :: starEach [] env := by intro _; rfl) (hp : ∀ env, (backTo pos (starEach ([] : List Expr) env)).any (·.1) = false := by intro _; rfl) : DE G (.Call (.Name nm p1) [e] [] pos) S rr S1 := fun X ok => by
  obtain ⟨hg, hm, _, _⟩ := ok.gl (elem_mem hx)
  exact PE_weak (pe_callB (cr X ok) hg hm hv (pa_b (h X ok) (hs _)) hn hdb (hs _) (hp _)) fun σ H Q ⟨B, hh, k⟩ => ⟨B, hh, fun p H1 h1 r1 ⟨vs, la, rs⟩ => ⟨_, p, vs, rfl, .inl la.sq, rs, fun z rz => k z H1 h1 r1 rz⟩⟩
theorem de_bestE {nm : Str} {id : String} {rr : PyData} (hx : G.blt.elem nm = true) (hv : bootBuiltins nm = some (.builtin id)) (hn : nm ≠ "__name__") (hdb : (nm == ("__debug__" : Str)) = false) (h : DE G e S (.tuple ds) S1) (cr : ∀ X, G.Ok X → CallR X (.builtin id) (rBest X.K rr ds)) (hs : ∀ env, starEach [e] env = (false, eval e env) :: starEach [] env := by intro _; rfl) (hp : ∀ env, (backTo pos (starEach ([] : List Expr) env)).any (·.1) = false := by intro _; rfl) : DE G (.Call (.Name nm p1) [e] [] pos) S rr S1 := fun X ok => by
  obtain ⟨hg, hm, _, _⟩ := ok.gl (elem_mem hx)
  refine PE_weak (pe_callB (cr X ok) hg hm hv (dd_one h hs X ok) hn hdb (hs _) (hp _)) fun σ H Q ⟨B, hh, k⟩ => ⟨B, hh, fun vs H1 h1 r1 q1 => ?_⟩
  obtain ⟨v, rfl, rv⟩ := reps_one q1
  cases rv with
  | @tup p ys _ la rs => exact ⟨_, p, ys, rfl, .inr la.sq, rs, fun z rz => k z H1 h1 r1 rz⟩
theorem max_cr (hd : Enc.dp α ≤ 100) (h : maxE xs = some y) : ∃ x zs, xs = x :: zs ∧ en y = PySem.W.maxD (Enc.enc x) (zs.map Enc.enc) ∧ ∀ X, G.Ok X → CallR X (.builtin "max") (rBest X.K (en y) (xs.map Enc.enc)) := by
  cases xs with
  | nil => cases h
  | cons x zs =>
    have h := Option.some.inj h
    have e : en y = PySem.W.maxD (Enc.enc x) (zs.map Enc.enc) := by rw [maxE_D, ← h]
    refine ⟨x, zs, rfl, e, fun X ok => ?_⟩
    rw [e]
    exact cr_maxD ok (alikeE x zs) (Nat.le_trans (depthAll_map (x :: zs)) hd) (by
      rw [maxE_D]
      exact List.mem_map_of_mem (f := Enc.enc) (fold_mem zs x))
theorem min_cr (hd : Enc.dp α ≤ 100) (h : minE xs = some y) : ∃ x zs, xs = x :: zs ∧ en y = PySem.W.minD (Enc.enc x) (zs.map Enc.enc) ∧ ∀ X, G.Ok X → CallR X (.builtin "min") (rBest X.K (en y) (xs.map Enc.enc)) := by
  cases xs with
  | nil => cases h
  | cons x zs =>
    have h := Option.some.inj h
    have e : en y = PySem.W.minD (Enc.enc x) (zs.map Enc.enc) := by rw [minE_D, ← h]
    refine ⟨x, zs, rfl, e, fun X ok => ?_⟩
    rw [e]
    exact cr_minD ok (alikeE x zs) (Nat.le_trans (depthAll_map (x :: zs)) hd) (by
      rw [minE_D]
      exact List.mem_map_of_mem (f := Enc.enc) (fold_mem (f := fun a y => PySem.W.dataLt (Enc.enc y) (Enc.enc a)) zs x))
theorem de_maxB (hx : G.blt.elem ("max" : Str) = true) (h : DB G e S (.lst (xs.map Enc.enc)) S1) (hy : maxE xs = some y) (hd : Enc.dp α ≤ 100 := by decide) (hs : ∀ env, starEach [e] env = (false, eval e env) :: starEach [] env := by intro _; rfl) (hp : ∀ env, (backTo pos (starEach ([] : List Expr) env)).any (·.1) = false := by intro _; rfl) : DE G (.Call (.Name "max" p1) [e] [] pos) S (en y) S1 := by
  obtain ⟨_, _, _, _, cr⟩ := max_cr (G := G) hd hy
  exact de_bestB hx bo_max (by decide) (by decide) h cr hs hp
theorem de_minB (hx : G.blt.elem ("min" : Str) = true) (h : DB G e S (.lst (xs.map Enc.enc)) S1) (hy : minE xs = some y) (hd : Enc.dp α ≤ 100 := by decide) (hs : ∀ env, starEach [e] env = (false, eval e env) :: starEach [] env := by intro _; rfl) (hp : ∀ env, (backTo pos (starEach ([] : List Expr) env)).any (·.1) = false := by intro _; rfl) : DE G (.Call (.Name "min" p1) [e] [] pos) S (en y) S1 := by
  obtain ⟨_, _, _, _, cr⟩ := min_cr (G := G) hd hy
  exact de_bestB hx bo_min (by decide) (by decide) h cr hs hp
theorem de_maxT (hx : G.blt.elem ("max" : Str) = true) (h : DE G e S (.tuple (xs.map Enc.enc)) S1) (hy : maxE xs = some y) (hd : Enc.dp α ≤ 100 := by decide) (hs : ∀ env, starEach [e] env = (false, eval e env) :: starEach [] env := by intro _; rfl) (hp : ∀ env, (backTo pos (starEach ([] : List Expr) env)).any (·.1) = false := by intro _; rfl) : DE G (.Call (.Name "max" p1) [e] [] pos) S (en y) S1 := by
  obtain ⟨_, _, _, _, cr⟩ := max_cr (G := G) hd hy
  exact de_bestE hx bo_max (by decide) (by decide) h cr hs hp
theorem de_minT (hx : G.blt.elem ("min" : Str) = true) (h : DE G e S (.tuple (xs.map Enc.enc)) S1) (hy : minE xs = some y) (hd : Enc.dp α ≤ 100 := by decide) (hs : ∀ env, starEach [e] env = (false, eval e env) :: starEach [] env := by intro _; rfl) (hp : ∀ env, (backTo pos (starEach ([] : List Expr) env)).any (·.1) = false := by intro _; rfl) : DE G (.Call (.Name "min" p1) [e] [] pos) S (en y) S1 := by
  obtain ⟨_, _, _, _, cr⟩ := min_cr (G := G) hd hy
  exact de_bestE hx bo_min (by decide) (by decide) h cr hs hp
end
end
end
end Pw
namespace Pw
open PySem PySem.Spec L2
section
variable {α β τ ρ : Type} {G : Cxt} {S S' S1 S2 S3 : List Sl} {a b c e f tg value iter : Expr} {es rest : List Expr} {body sts : List Stmt} {st : Stmt} {d d1 d2 : PyData} {ds ds1 ds2 : List PyData} {o o' : Ob} {s s1 : Sl} {pos p1 p2 p3 : Pos} {R : Rz} {m n : Int}
def whileF (cond : τ → Option Bool) (step : τ → Option (Out Empty τ)) (fuel : Nat) (t : τ) : Option τ := match whileM cond step fuel t with
  | some (.nx t') => some t'
  | _ => none
theorem whileF_M {cond : τ → Option Bool} {step : τ → Option (Out Empty τ)} {fuel : Nat} {t t' : τ} (h : whileF cond step fuel t = some t') : whileM cond step fuel t = some (.nx t') := by
  unfold whileF at h
  cases q : whileM cond step fuel t with
  | none => rw [q] at h; cases h
  | some o =>
    rw [q] at h
    cases o with
    | nx u => rw [Option.some.inj h]
    | bk u => cases h
    | ret r => exact r.elim
theorem ds_whileF {fuel : Nat} {t0 t1 : τ} {cond : τ → Option Bool} {step : τ → Option (Out Empty τ)} (slots : τ → List Sl) (h0 : Wk S (slots t0)) (hc : ∀ t b, cond t = some b → DT G c (slots t) b (slots t))
    (hb : ∀ t out, step t = some out → DSs G body (slots t) (rzo slots (fun _ => .dat .none) (fun _ => []) out)) (hl : whileF cond step fuel t0 = some t1) : DS G (.While c body [] pos) S (.nx (slots t1)) :=
  ds_while (ρ := Empty) (rt := fun _ => .dat .none) (rs := fun _ => []) (out := .nx t1) h0 hc hb (whileF_M hl)
/-- a statement that may leave the def, and what comes behind it -/
theorem dss_out {out : Out ρ τ} {slots : τ → List Sl} {rt : ρ → Rt} {rs : ρ → List Sl} (h : DS G st S (rzo slots rt rs out)) (hn : ∀ t, out = .nx t → DSs G sts (slots t) R) (hr : ∀ r, out = .ret r → R = .ret (rt r) (rs r)) (hb : ∀ t, out = .bk t → R = .bk (slots t)) : DSs G (st :: sts) S R := by
  cases out with
  | nx t => exact dss_cons h (hn t rfl)
  | bk t => rw [hb t rfl]; exact dss_end h
  | ret r => rw [hr r rfl]; exact dss_end h
/-- behind such a statement, break seen too -/
def outB {γ : Type} (o : Out ρ τ) (kr : ρ → Option γ) (kb : τ → Option γ) (kn : τ → Option γ) : Option γ := match o with
  | .ret r => kr r
  | .nx t => kn t
  | .bk t => kb t
theorem lv_outC {γ : Type} {o : Out ρ τ} {ρ' τ' : Type} {kr : ρ → Option (Out ρ' τ')} {kn : τ → Option (Out ρ' τ')} (h1 : ∀ r, Lv (kr r)) (h2 : ∀ t, Lv (kn t)) : Lv (outC o kr kn) := by
  cases o with
  | nx t => exact h2 t
  | bk t => exact h2 t
  | ret r => exact h1 r
/-- of an answer that is no break -/
def Nb (o : Option (Out ρ τ)) : Prop := ∀ t, o ≠ some (.bk t)
theorem nb_nx {t : τ} : Nb (some (.nx t) : Option (Out ρ τ)) := fun _ h => by cases h
theorem nb_ret {r : ρ} : Nb (some (.ret r) : Option (Out ρ τ)) := fun _ h => by cases h
theorem nb_bind {o : Option α} {f : α → Option (Out ρ τ)} (h : ∀ x, Nb (f x)) : Nb (o.bind f) := fun t z => by
  obtain ⟨x, _, q⟩ := bnd z
  exact h x t q
theorem nb_ite {c : Bool} {x y : Option (Out ρ τ)} (h1 : Nb x) (h2 : Nb y) : Nb (if c = true then x else y) := by
  cases c with
  | true => exact h1
  | false => exact h2
theorem nb_outC {ρ' τ' : Type} {o : Out ρ' τ'} {kr : ρ' → Option (Out ρ τ)} {kn : τ' → Option (Out ρ τ)} (h1 : ∀ r, Nb (kr r)) (h2 : ∀ t, Nb (kn t)) : Nb (outC o kr kn) := by
  cases o with
  | nx t => exact h2 t
  | bk t => exact h2 t
  | ret r => exact h1 r
theorem nobk_of {o : Option (Out ρ τ)} {out : Out ρ τ} (h : Nb o) (e : o = some out) (t : τ) (z : out = .bk t) : False := h t (by rw [e, z])
end
section
variable {α : Type} [DecidableEq α] [Enc α]
/-- a tuple of any length taken apart -/
def unp2 : List α → Option (T2 α α)
  | [a, b] => some ⟨a, b⟩
  | _ => none
def unp3 : List α → Option (T3 α α α)
  | [a, b, c] => some ⟨a, b, c⟩
  | _ => none
theorem unp2_ok : ∀ {xs : List α} {v : T2 α α}, unp2 xs = some v → en xs = en v
  | [a, b], v, h => by cases h; rfl
theorem unp3_ok : ∀ {xs : List α} {v : T3 α α α}, unp3 xs = some v → en xs = en v
  | [a, b, c], v, h => by cases h; rfl
end
section
variable {G : Cxt} {S S1 : List Sl} {st : Stmt} {s : Sl} {i : Nat} {R : Rz} {ds : List (Key × PyData)}
/-- a statement while a dict is walked -/
theorem ds_lock (hs : S[i]? = some s) (m : Lkb s (.dk ds)) (h : DS G st (S.set i (.lkd (.dk ds))) R) (h1 : R.sl[i]? = some (.lkd (.dk ds))) (hr : ∀ r S', R = .ret r S' → ∃ d, r = .dat d := by intro _ _ z; cases z) : DS G st S (R.back i s) := by
  intro X ok
  refine PS_weak (PS_or (ps_lock (h X ok)) (h X ok)) ?_
  rintro D σ H ⟨B, hh, kk⟩
  obtain ⟨p, er, q⟩ := hh.lock hs m
  rcases q with ⟨kvs, hp, q⟩ | ⟨od, kvs, hp, es, q⟩
  · refine .inl ⟨p, _, hp, trivial, fun od => ⟨Bm B p, q od, ?_⟩⟩
    cases R with
    | nx S' =>
      intro σ' H' h' r
      obtain ⟨f1, f2, f3, f4, f5⟩ := hh.unlock hs m er hp (fun _ z => z) h' r h1
      rw [bm_or] at f2
      exact ⟨f1, kk σ' _ f2 f3⟩
    | bk S' =>
      intro σ' H' h' r
      obtain ⟨f1, f2, f3, f4, f5⟩ := hh.unlock hs m er hp (fun _ z => z) h' r h1
      rw [bm_or] at f2
      exact ⟨f1, kk σ' _ f2 f3⟩
    | ret r S' =>
      intro v σ' H' h' r' q'
      obtain ⟨f1, f2, f3, f4, f5⟩ := hh.unlock hs m er hp (fun _ z => z) h' r' h1
      rw [bm_or] at f2 f4
      obtain ⟨d, rfl⟩ := hr r S' rfl
      exact ⟨f1, kk v σ' _ f2 f3 (Rep.car f4 q')⟩
  · subst es
    refine .inr ⟨B, q, ?_⟩
    cases R with
    | nx S' =>
      intro σ' H' h' r
      obtain ⟨f1, f2, f3⟩ := lkd_bor hs h' r h1
      exact kk σ' _ f1 f2
    | bk S' =>
      intro σ' H' h' r
      obtain ⟨f1, f2, f3⟩ := lkd_bor hs h' r h1
      exact kk σ' _ f1 f2
    | ret r S' =>
      intro v σ' H' h' r' q'
      obtain ⟨f1, f2, f3⟩ := lkd_bor hs h' r' h1
      obtain ⟨d, rfl⟩ := hr r S' rfl
      exact kk v σ' _ f1 f2 (Rep.car (Car.imp fun a z => z.imp (f3 a).mp id) q')
end
section
variable {α : Type} [DecidableEq α] [Enc α] {G : Cxt} {S S1 S2 : List Sl} {a b e : Expr} {pos p1 : Pos} {s s1 : Sl} {i : Nat} {x : Str} {xs ys : List α} {u : Unit} {ds : List PyData}
theorem df_catBT (ha : DB G a S (.lst (xs.map Enc.enc)) S1) (hb : DB G b S1 (.lst (ys.map Enc.enc)) S2) (hz : chkN (xs.length + ys.length) = some u) : DF G (.BinOp a .Add b pos) S (.lst ((xs ++ ys).map Enc.enc)) S2 := by
  rw [List.map_append]
  exact df_catB ha hb (by rw [List.length_map, List.length_map]; exact chkN_le hz)
theorem ds_augLT (hx : G.tab.lookup x = some i) (hl : G.loc.elem x = true) (h0 : S[i]? = some s) (m0 : Mine s (.lst ds)) (he : DF G e S (.lst (ys.map Enc.enc)) S1) (h1 : S1[i]? = some s1) (m1 : Mine s1 (.lst (xs.map Enc.enc))) (hz : chkN (xs.length + ys.length) = some u) : DS G (.AugAssign (.Name x p1) .Add e pos) S (.nx (S1.set i (reob s1 (.lst ((xs ++ ys).map Enc.enc))))) := by
  rw [List.map_append]
  exact ds_augL hx hl h0 m0 he h1 m1 (by rw [List.length_map, List.length_map]; exact chkN_le hz)
end
/-! ### a list made by a comprehension, stored at a name that is a cell -/
def isCell (sc : Scope) (x : Str) : Bool := match sc.names.lookup x with
  | some .cell => true
  | _ => false
theorem isCell_of {sc : Scope} {x : Str} (h : isCell sc x = true) : sc.names.lookup x = some .cell := by
  unfold isCell at h
  split at h
  · assumption
  · cases h
theorem sw_cell {elt : Expr} {gs : List Comprehension} {scope : Scope} {pos py : Pos} {y : Str} {l : Nat} {env : Env} (hy : env.scope.names.lookup y = some .cell) : swapsWith (.ListComp elt gs scope pos) (some (.Name y py)) l env = Pure.pure false := by
  have ky : env.kindOf y = some .cell := hy
  unfold swapsWith
  simp only [ky]
  show Pure.pure (env.blockKind == .function && (some NameKind.cell == some NameKind.local) && py.line == pos.line && !(scope.names.any fun (n, k) => n == y && (k == .local || k == .cell))) = _
  rw [show (some NameKind.cell == some NameKind.local) = false from rfl, Bool.and_false]
  rfl
theorem ds_setOC {G : Cxt} {S S1 : List Sl} {x : Str} {i : Nat} {elt : Expr} {gs : List Comprehension} {scope : Scope} {pos p1 spos : Pos} {o : Ob} (hx : G.tab.lookup x = some i) (hl : G.loc.elem x = true) (hk : isCell G.sc x = true) (he : DF G (.ListComp elt gs scope pos) S o S1) (hio : noIo S1 i = true := by rfl) : DS G (.Assign [.Name x p1] (.ListComp elt gs scope pos) spos) S (.nx (S1.set i (.own o))) := fun X ok => by
  obtain ⟨h1, _⟩ := ok.var hx
  obtain ⟨l1, l2⟩ := ok.st (elem_mem hl)
  have hc : X.env.scope.names.lookup x = some .cell := by rw [ok.sc]; exact isCell_of hk
  exact PS_weak (ps_set ok.nd h1 l1 (he X ok) (sw_cell hc) l2) fun D σ H ⟨B, hh, k⟩ => ⟨B, hh, fun p H1 hp n h1 r1 q1 => by
    obtain ⟨a1, a2⟩ := Holds.setP hh r1 hp n h1 q1 hio
    exact k _ H1 a1 a2⟩
end Pw
/-! ### the order of data: one, total; sorting by it -/
namespace Pw
open PySem PySem.Spec L2
section
variable {α : Type} [DecidableEq α] [Enc α]
def ltE (a b : α) : Bool := PySem.W.dataLt (Enc.enc a) (Enc.enc b)
theorem ltE_irr (a : α) : ltE a a = false := PyProof.Rows.lex_irrefl _
theorem ltE_tr {a b c : α} (h : ltE a b = true) (h2 : ltE b c = true) : ltE a c = true := PyProof.Rows.lex_trans _ _ _ h h2
theorem ltE_asym {a b : α} (h : ltE a b = true) : ltE b a = false := by
  cases q : ltE b a with
  | false => rfl
  | true => have := ltE_tr h q; rw [ltE_irr] at this; cases this
theorem ltE_one [EncL α] {a b : α} (h : ltE a b = false) (h2 : ltE b a = false) : a = b := by
  have e : PySem.W.keyToks (Enc.enc a) = PySem.W.keyToks (Enc.enc b) := PyProof.Rows.lex_total _ _ h h2
  cases q : PyData.eqv (Enc.enc a) (Enc.enc b) with
  | true => rw [Enc.eqv] at q; exact of_decide_eq_true q
  | false =>
    exfalso
    have t := (PySem.W.toks_eqv _ _ (EncL.al a b)).2 q [] [.inl 0]
    rw [e, PySem.W.lex_pre, PyProof.Rows.lex_irrefl] at t
    cases t
theorem ltE_tri [EncL α] (a b : α) : ltE a b = true ∨ a = b ∨ ltE b a = true := by
  cases q : ltE a b with
  | true => exact .inl rfl
  | false => cases r : ltE b a with
    | true => exact .inr (.inr rfl)
    | false => exact .inr (.inl (ltE_one q r))
def leE (a b : α) : Bool := !ltE b a
theorem leE_data : PySem.W.dataLe false (Enc.enc : α → PyData) = leE := rfl
theorem leE_refl (a : α) : leE a a = true := by unfold leE; rw [ltE_irr]; rfl
theorem leE_total (a b : α) : (leE a b || leE b a) = true := by
  unfold leE
  cases q : ltE b a with
  | false => rfl
  | true => rw [ltE_asym q]; rfl
theorem leE_iff [EncL α] {a b : α} : leE a b = true ↔ ltE a b = true ∨ a = b := by
  unfold leE
  constructor
  · intro h
    rcases ltE_tri a b with q | q | q
    · exact .inl q
    · exact .inr q
    · rw [q] at h; cases h
  · rintro (h | rfl)
    · rw [ltE_asym h]; rfl
    · rw [ltE_irr]; rfl
theorem leE_tr {a b c : α} (h : leE a b = true) (h2 : leE b c = true) : leE a c = true := by
  unfold leE at *
  cases q : ltE c a with
  | false => rfl
  | true =>
    rcases PyProof.Rows.lex_negTrans (O := PyProof.Rows.itemOrd) _ (PySem.W.keyToks (Enc.enc b)) _ q with r | r
    · have r : ltE c b = true := r; rw [r] at h2; cases h2
    · have r : ltE b a = true := r; rw [r] at h; cases h
theorem leE_anti [EncL α] {a b : α} (h : leE a b = true) (h2 : leE b a = true) : a = b := by
  unfold leE at *
  exact ltE_one (by simpa using h2) (by simpa using h)
theorem sortE_perm (xs : List α) : (sortE xs).Perm xs := List.mergeSort_perm _ _
theorem sortE_sorted (xs : List α) : (sortE xs).Pairwise fun a b => leE a b = true :=
  List.pairwise_mergeSort (le := leE) (fun _ _ _ => leE_tr) leE_total xs
theorem sortE_mem {xs : List α} {x : α} : x ∈ sortE xs ↔ x ∈ xs := (sortE_perm xs).mem_iff
theorem sortE_len (xs : List α) : (sortE xs).length = xs.length := (sortE_perm xs).length_eq
theorem sortE_one [EncL α] {xs ys : List α} (h : ys.Perm xs) (hs : ys.Pairwise fun a b => leE a b = true) : sortE xs = ys :=
  List.Perm.eq_of_pairwise (le := fun a b => leE a b = true) (fun _ _ _ _ => leE_anti) (sortE_sorted xs) hs ((sortE_perm xs).trans h.symm)
theorem sortE_eq [EncL α] {xs ys : List α} (h : xs.Perm ys) : sortE xs = sortE ys := sortE_one ((sortE_perm ys).trans h.symm) (sortE_sorted ys)
theorem sortE_id [EncL α] {xs : List α} (hs : xs.Pairwise fun a b => leE a b = true) : sortE xs = xs := sortE_one (.refl _) hs
theorem sortE_idem [EncL α] (xs : List α) : sortE (sortE xs) = sortE xs := sortE_id (sortE_sorted xs)
/-- by insertion: this the kernel can compute -/
def insE (x : α) : List α → List α
  | [] => [x]
  | y :: ys => if ltE y x = true then y :: insE x ys else x :: y :: ys
def isortE : List α → List α
  | [] => []
  | x :: xs => insE x (isortE xs)
theorem insE_perm (x : α) : ∀ ys : List α, (insE x ys).Perm (x :: ys)
  | [] => .refl _
  | y :: ys => by
    unfold insE
    split
    · exact ((insE_perm x ys).cons y).trans (.swap x y ys)
    · exact .refl _
theorem insE_sorted (x : α) : ∀ ys : List α, (ys.Pairwise fun a b => leE a b = true) → (insE x ys).Pairwise fun a b => leE a b = true
  | [], _ => .cons (fun _ h => by cases h) .nil
  | y :: ys, h => by
    obtain ⟨h1, h2⟩ := List.pairwise_cons.mp h
    unfold insE
    split
    · rename_i q
      refine .cons (fun z hz => ?_) (insE_sorted x ys h2)
      rcases List.mem_cons.mp ((insE_perm x ys).mem_iff.mp hz) with rfl | hz
      · unfold leE; rw [ltE_asym q]; rfl
      · exact h1 z hz
    · rename_i q
      have q : leE x y = true := by unfold leE; simpa using q
      exact .cons (fun z hz => by
        rcases List.mem_cons.mp hz with rfl | hz
        · exact q
        · exact leE_tr q (h1 z hz)) h
theorem isortE_perm : ∀ xs : List α, (isortE xs).Perm xs
  | [] => .refl _
  | x :: xs => (insE_perm x _).trans ((isortE_perm xs).cons x)
theorem isortE_sorted : ∀ xs : List α, (isortE xs).Pairwise fun a b => leE a b = true
  | [] => .nil
  | x :: xs => insE_sorted x _ (isortE_sorted xs)
theorem sortE_ins [EncL α] (xs : List α) : sortE xs = isortE xs := sortE_one (isortE_perm xs) (isortE_sorted xs)
/-! sets -/
def setE : List α → List α
  | [] => []
  | x :: xs => if decide (x ∈ xs) = true then setE xs else x :: setE xs
theorem setE_mem {x : α} : ∀ {xs : List α}, x ∈ setE xs ↔ x ∈ xs
  | [] => Iff.rfl
  | y :: xs => by
    unfold setE
    split
    · rename_i h
      rw [setE_mem, List.mem_cons]
      exact ⟨.inr, fun q => q.elim (fun e => e ▸ of_decide_eq_true h) id⟩
    · rw [List.mem_cons, List.mem_cons, setE_mem]
theorem setE_nodup : ∀ xs : List α, (setE xs).Nodup
  | [] => .nil
  | y :: xs => by
    unfold setE
    split
    · exact setE_nodup xs
    · rename_i h
      exact List.nodup_cons.mpr ⟨fun q => h (decide_eq_true (setE_mem.mp q)), setE_nodup xs⟩
/-- what is sorted, without two alike, and has the same items -/
theorem sortSet_one [EncL α] {xs ys : List α} (hm : ∀ x, x ∈ ys ↔ x ∈ xs) (hs : ys.Pairwise fun a b => ltE a b = true) : sortE (setE xs) = ys := by
  refine sortE_one ((List.perm_ext_iff_of_nodup (hs.imp fun h e => ?_) (setE_nodup xs)).mpr fun x => by rw [hm, setE_mem]) (hs.imp fun h => leE_iff.mpr (.inl h))
  subst e; rw [ltE_irr] at h; cases h
theorem sortSet_sorted [EncL α] (xs : List α) : (sortE (setE xs)).Pairwise fun a b => ltE a b = true := by
  have nd : (sortE (setE xs)).Nodup := (sortE_perm _).nodup_iff.mpr (setE_nodup xs)
  have h := (sortE_sorted (setE xs)).and nd
  refine h.imp fun ⟨h1, h2⟩ => ?_
  rcases leE_iff.mp h1 with q | q
  · exact q
  · exact absurd q h2
theorem sortSet_mem {xs : List α} {x : α} : x ∈ sortE (setE xs) ↔ x ∈ xs := by rw [sortE_mem, setE_mem]
theorem sortSet_eq [EncL α] {xs ys : List α} (h : ∀ x, x ∈ xs ↔ x ∈ ys) : sortE (setE xs) = sortE (setE ys) := sortSet_one (fun x => by rw [sortSet_mem, h]) (sortSet_sorted ys)
/-! the best -/
theorem minE_spec {xs : List α} {y : α} (h : minE xs = some y) : y ∈ xs ∧ ∀ x ∈ xs, leE y x = true := by
  cases xs with
  | nil => cases h
  | cons x xs =>
    have h := Option.some.inj h
    have key : ∀ (l : List α) (x : α), (∀ z ∈ x :: l, leE (l.foldl (fun a y => if PySem.W.dataLt (Enc.enc y) (Enc.enc a) = true then y else a) x) z = true) := by
      intro l
      induction l with
      | nil => intro x z hz; rw [List.mem_singleton.mp hz]; exact leE_refl x
      | cons y l ih =>
        intro x z hz
        rw [List.foldl_cons]
        by_cases q : PySem.W.dataLt (Enc.enc y) (Enc.enc x) = true
        · rw [if_pos q]
          rcases List.mem_cons.mp hz with rfl | hz
          · exact leE_tr (ih y y List.mem_cons_self) (by unfold leE; rw [show ltE z y = false from ltE_asym q]; rfl)
          · exact ih y z hz
        · rw [if_neg q]
          have q : leE x y = true := by unfold leE ltE; simpa using q
          rcases List.mem_cons.mp hz with rfl | hz
          · exact ih z z List.mem_cons_self
          · rcases List.mem_cons.mp hz with rfl | hz
            · exact leE_tr (ih x x List.mem_cons_self) q
            · exact ih x z (List.mem_cons_of_mem _ hz)
    rw [← h]
    exact ⟨fold_mem (f := fun a y => PySem.W.dataLt (Enc.enc y) (Enc.enc a)) xs x, key xs x⟩
theorem maxE_spec {xs : List α} {y : α} (h : maxE xs = some y) : y ∈ xs ∧ ∀ x ∈ xs, leE x y = true := by
  cases xs with
  | nil => cases h
  | cons x xs =>
    have h := Option.some.inj h
    have key : ∀ (l : List α) (x : α), (∀ z ∈ x :: l, leE z (l.foldl (fun a y => if PySem.W.dataLt (Enc.enc a) (Enc.enc y) = true then y else a) x) = true) := by
      intro l
      induction l with
      | nil => intro x z hz; rw [List.mem_singleton.mp hz]; exact leE_refl x
      | cons y l ih =>
        intro x z hz
        rw [List.foldl_cons]
        by_cases q : PySem.W.dataLt (Enc.enc x) (Enc.enc y) = true
        · rw [if_pos q]
          rcases List.mem_cons.mp hz with rfl | hz
          · exact leE_tr (by unfold leE; rw [show ltE y z = false from ltE_asym q]; rfl) (ih y y List.mem_cons_self)
          · exact ih y z hz
        · rw [if_neg q]
          have q : leE y x = true := by unfold leE ltE; simpa using q
          rcases List.mem_cons.mp hz with rfl | hz
          · exact ih z z List.mem_cons_self
          · rcases List.mem_cons.mp hz with rfl | hz
            · exact leE_tr q (ih x x List.mem_cons_self)
            · exact ih x z (List.mem_cons_of_mem _ hz)
    rw [← h]
    exact ⟨fold_mem (f := fun a y => PySem.W.dataLt (Enc.enc a) (Enc.enc y)) xs x, key xs x⟩
theorem minE_some {xs : List α} (h : xs ≠ []) : ∃ y, minE xs = some y := by
  cases xs with
  | nil => exact absurd rfl h
  | cons x xs => exact ⟨_, rfl⟩
theorem maxE_some {xs : List α} (h : xs ≠ []) : ∃ y, maxE xs = some y := by
  cases xs with
  | nil => exact absurd rfl h
  | cons x xs => exact ⟨_, rfl⟩
theorem minE_is [EncL α] {xs : List α} {y : α} (h : y ∈ xs) (hl : ∀ x ∈ xs, leE y x = true) : minE xs = some y := by
  obtain ⟨z, hz⟩ := minE_some (List.ne_nil_of_mem h)
  obtain ⟨a, b⟩ := minE_spec hz
  rw [hz, leE_anti (b y h) (hl z a)]
theorem maxE_is [EncL α] {xs : List α} {y : α} (h : y ∈ xs) (hl : ∀ x ∈ xs, leE x y = true) : maxE xs = some y := by
  obtain ⟨z, hz⟩ := maxE_some (List.ne_nil_of_mem h)
  obtain ⟨a, b⟩ := maxE_spec hz
  rw [hz, leE_anti (hl z a) (b y h)]
theorem minE_perm [EncL α] {xs ys : List α} (h : xs.Perm ys) : minE xs = minE ys := by
  by_cases hx : xs = []
  · subst hx; rw [h.nil_eq]
  · obtain ⟨y, hy⟩ := minE_some hx
    obtain ⟨a, b⟩ := minE_spec hy
    rw [hy, minE_is (h.mem_iff.mp a) fun x hx => b x (h.mem_iff.mpr hx)]
end
/-! the orders in plain words -/
@[simp] theorem ltE_int (a b : Int) : ltE a b = decide (a < b) := PySem.W.dataLt_int a b
@[simp] theorem leE_int (a b : Int) : leE a b = decide (a ≤ b) := by
  unfold leE
  rw [ltE_int]
  by_cases h : b < a
  · have : ¬ a ≤ b := by omega
    simp [h, this]
  · have : a ≤ b := by omega
    simp [h, this]
theorem ltE_str (a b : Str) : ltE a b = decide (a.cps.toList < b.cps.toList) := PySem.W.dataLt_str a b
section
variable {α β γ : Type} [DecidableEq α] [Enc α] [EncL α] [DecidableEq β] [Enc β] [EncL β] [DecidableEq γ] [Enc γ] [EncL γ]
theorem row_cons (x y : α) (xs ys : List PyData) : PyProof.Rows.lexLt PyProof.Rows.itemOrd (PySem.W.keyToksAll (Enc.enc x :: xs)) (PySem.W.keyToksAll (Enc.enc y :: ys)) = if x = y then PyProof.Rows.lexLt PyProof.Rows.itemOrd (PySem.W.keyToksAll xs) (PySem.W.keyToksAll ys) else ltE x y := by
  rw [PySem.W.dataLt_cons (EncL.al x y), Enc.eqv]
  by_cases h : x = y <;> simp [h, ltE]
theorem ltE_T2 (x y : T2 α β) : ltE x y = if x.a = y.a then ltE x.b y.b else ltE x.a y.a := by
  obtain ⟨a, b⟩ := x; obtain ⟨a', b'⟩ := y
  show PySem.W.dataLt (.tuple [_, _]) (.tuple [_, _]) = _
  rw [PySem.W.dataLt_tuple, row_cons, row_cons, PyProof.Rows.lex_irrefl]
  dsimp only
  by_cases h : b = b'
  · subst h; simp [ltE_irr]
  · simp [h]
theorem ltE_T3 (x y : T3 α β γ) : ltE x y = if x.a = y.a then (if x.b = y.b then ltE x.c y.c else ltE x.b y.b) else ltE x.a y.a := by
  obtain ⟨a, b, c⟩ := x; obtain ⟨a', b', c'⟩ := y
  show PySem.W.dataLt (.tuple [_, _, _]) (.tuple [_, _, _]) = _
  rw [PySem.W.dataLt_tuple, row_cons, row_cons, row_cons, PyProof.Rows.lex_irrefl]
  dsimp only
  by_cases h : c = c'
  · subst h; simp [ltE_irr]
  · simp [h]
theorem ltE_nil (ys : List α) : ltE ([] : List α) ys = !ys.isEmpty := by
  show PySem.W.dataLt (.tuple _) (.tuple _) = _
  rw [PySem.W.dataLt_tuple]
  cases ys with
  | nil => exact PyProof.Rows.lex_irrefl _
  | cons y ys =>
    rw [List.map_nil, List.map_cons, PySem.W.toks_all_cons, PySem.W.keyToksAll]
    rfl
theorem ltE_cons_nil (x : α) (xs : List α) : ltE (x :: xs) [] = false := ltE_asym (by rw [ltE_nil]; rfl)
theorem ltE_cons (x y : α) (xs ys : List α) : ltE (x :: xs) (y :: ys) = if x = y then ltE xs ys else ltE x y := by
  show PySem.W.dataLt (.tuple _) (.tuple _) = _
  rw [PySem.W.dataLt_tuple, List.map_cons, List.map_cons, row_cons]
  show _ = if x = y then PySem.W.dataLt (.tuple _) (.tuple _) else _
  rw [PySem.W.dataLt_tuple]
end
end Pw
/-! ### sets of ints and of texts, made of a list or a tuple, and sorted -/
namespace Pw
open PySem PySem.Spec PyProof.Rows L2
def kyV : Value → Key
  | .int k _ => .inl k
  | .str x _ => .inr x
  | _ => .inl 0
def kyE (e : Int × Value) : Key := kyV e.2
def GdE (w : World) (e : Int × Value) : Prop := keyIs (kyE e) e.2 = true ∧ e.1 = keyH w (kyE e)
theorem kyV_of {k : Key} {v : Value} (h : keyIs k v = true) : kyV v = k := by
  rcases keyIs_shape h with ⟨i, t, rfl, rfl⟩ | ⟨x, t, rfl, rfl⟩ <;> rfl
theorem is_scan {k : Key} {v : Value} (h : keyIs k v = true) : v.scannable = true := by
  rcases keyIs_shape h with ⟨i, t, rfl, rfl⟩ | ⟨x, t, rfl, rfl⟩ <;> rfl
structure SetM (w : World) (h : Heap) (a : Addr) (Ks : Key → Prop) (n : Nat) : Prop where
  ob : ∃ o es ep t, h.get? a = some o ∧ o.ExactSet ∧ o.data = .set es ep t ∧ (∀ e ∈ es.toList, GdE w e) ∧ (es.toList.map kyE).Nodup ∧ (∀ k, Ks k ↔ k ∈ es.toList.map kyE) ∧ es.size < scanBound ∧ t.fits es.size = true ∧ es.size = n ∧ Ris t.place.toList ∧ (w.params.followText "set-order" = true ∨ t.led = true)
section
variable {P : Program} {w : World} {h h' : Heap} {a : Addr} {Ks : Key → Prop} {n : Nat} {A : Around} {E : Value → Shared → Prop} {s : Shared}
theorem SetM.at (R : SetM w h a Ks n) (k : ∀ o, h.get? a = some o → h'.get? a = some o) : SetM w h' a Ks n := by
  obtain ⟨o, es, ep, t, ho, r⟩ := R.ob
  exact ⟨o, es, ep, t, k o ho, r⟩
theorem SetM.congr {Ks' : Key → Prop} (R : SetM w h a Ks n) (e : ∀ k, Ks' k ↔ Ks k) : SetM w h a Ks' n := by
  have q : Ks' = Ks := funext fun k => propext (e k)
  rw [q]; exact R
theorem gd_elems {l : List (Int × Value)} (g : ∀ e ∈ l, GdE w e) : ElemsOf (mixKind P w) l := fun e he => ⟨⟨_, (g e he).1, (g e he).2⟩, is_scan (g e he).1⟩
theorem gd_mem {l : List (Int × Value)} (g : ∀ e ∈ l, GdE w e) (k : Key) : k ∈ l.map kyE ↔ ∃ e ∈ l, (mixKind P w).is k e.2 = true := by
  rw [List.mem_map]
  refine ⟨fun ⟨e, he, q⟩ => ⟨e, he, ?_⟩, fun ⟨e, he, q⟩ => ⟨e, he, kyV_of q⟩⟩
  rw [← q]; exact (g e he).1
/-- behind what lays one more -/
theorem setM_tail {g : Bool → Sem Unit} (hg : ∀ (b : Bool) (s₁ : Shared) (Q' : Unit → Shared → Prop), Q' () s₁ → wpAny (model P w) A (g b) Q' E s₁)
    {o : Obj} {es : Array (Int × Value)} {ep : Nat} {t : SetTable} (ho : s.heap.get? a = some o) (hex : o.ExactSet) (hd : o.data = .set es ep t)
    {es1 : Array (Int × Value)} {t2 : SetTable} {Ks' : Key → Prop} (g1 : ∀ e ∈ es1.toList, GdE w e) (nd1 : (es1.toList.map kyE).Nodup) (m1 : ∀ k, Ks' k ↔ k ∈ es1.toList.map kyE)
    (hb1 : es1.size < scanBound) (hf2 : t2.fits es1.size = true) (hr : Ris t2.place.toList) (hl : w.params.followText "set-order" = true ∨ t2.led = true) {wasDummy : Bool} {R : Option Bool → Shared → Prop}
    (hR : ∀ h', Heap.SameBut a s.heap h' → SetM w h' a Ks' es1.size → R (some true) { s with heap := h' }) :
    wpAny (model P w) A (do
        storeSet a es1 t2
        if (!wasDummy && t2.tooFull) = true then do
            g (relayAll t2 es1 (SetTable.grown es1.size)).2.2; storeSet a (relayAll t2 es1 (SetTable.grown es1.size)).1 (relayAll t2 es1 (SetTable.grown es1.size)).2.1; pure (some true)
          else pure (some true)) R E s := by
  refine wpAny_bind (wpAny_storeSet_of ho hd ?_ (fits_of_scanBound hb1)); have o1 := store_at (es' := es1) (t' := t2) ho hd; have b1 := Heap.SameBut.update s.heap a (Obj.putSet es1 t2)
  split
  · have pm := relayAll_perm t2 es1 (SetTable.grown es1.size); have f3 := relayAll_fits t2 es1 (SetTable.grown es1.size); have r3 := relayAll_ris t2 es1 (SetTable.grown es1.size); have l3 := relayAll_led t2 es1 (SetTable.grown es1.size)
    generalize relayAll t2 es1 (SetTable.grown es1.size) = Z at pm f3 r3 l3 ⊢; obtain ⟨es2, t3, gv⟩ := Z; dsimp only at pm f3 r3 l3 ⊢
    have hz : es2.size = es1.size := by rw [← Array.length_toList, pm.length_eq, Array.length_toList]
    have hb2 : es2.size < scanBound := by rw [hz]; exact hb1
    refine wpAny_bind (hg _ _ _ ?_); refine wpAny_bind (wpAny_storeSet_of o1 rfl ?_ (fits_of_scanBound hb2)); have o2 := store_at (es' := es2) (t' := t3) o1 rfl
    refine wpAny_pure (hR _ (b1.trans (Heap.SameBut.update _ a _)) ⟨_, es2, _, t3, o2, hex, rfl, fun e he => g1 e (pm.mem_iff.mp he), (pm.map kyE).nodup_iff.mpr nd1, fun k => (m1 k).trans (pm.map kyE).mem_iff.symm, hb2, f3, hz, r3, hl.imp id fun z => by rw [l3]; exact z⟩)
  · exact wpAny_pure (hR _ b1 ⟨_, es1, _, t2, o1, hex, rfl, g1, nd1, m1, hb1, hf2, rfl, hr, hl⟩)
theorem setM_add {k : Key} {v : Value} {Q : Bool → Shared → Prop} (hv : keyIs k v = true) (R : SetM w s.heap a Ks n) (room : n + 1 < scanBound)
    (hQ : ∀ b h' n', Heap.SameBut a s.heap h' → SetM w h' a (fun j => Ks j ∨ j = k) n' → n' ≤ n + 1 → Q b { s with heap := h' }) :
    wpAny (model P w) A (setAddHashed a v ((mixKind P w).hash k)) Q E s := by
  obtain ⟨o, es, ep, t, ho, hex, hd, g, nd, hm, hb, hf, hn, hr, hl⟩ := R.ob
  have hkey : (mixKind P w).is k v = true := hv
  have hsc : v.scannable = true := is_scan hv
  have hel : ElemsOf (mixKind P w) es.toList := gd_elems g
  unfold setAddHashed setAddHashedIn
  refine wpAny_holding (wpAny_bind (wpAny_setState_of ho hd hf ?_)); dsimp only; rw [byScan_of hsc hb hel]; simp only [↓reduceIte]
  unfold setAddByScan
  refine wpAny_bind (wpAny_bind (wpAny_rule (wpAny_bind (wpAny_setScan_of hkey ho hd hf hel ?_))))
  cases hfi : List.findIdx? (fun e => (mixKind P w).is k e.2) es.toList with
  | some j =>
    dsimp only
    obtain ⟨hj, pj, _⟩ := List.findIdx?_eq_some_iff_getElem.mp hfi
    have hSk : Ks k := (hm k).2 ((gd_mem (P := P) (w := w) g k).2 ⟨es.toList[j], List.getElem_mem hj, pj⟩)
    refine wpAny_pure (wpAny_pure (hQ _ s.heap n (Heap.SameBut.refl a s.heap) ⟨o, es, ep, t, ho, hex, hd, g, nd, fun i => ?_, hb, hf, hn, hr, hl⟩ (Nat.le_succ _)))
    rw [← hm i]
    exact ⟨fun z => z.elim id (fun e => e ▸ hSk), .inl⟩
  | none =>
    dsimp only
    have hnk : k ∉ es.toList.map kyE := fun z => by
      obtain ⟨e, he, q⟩ := (gd_mem (P := P) (w := w) g k).1 z
      have c := List.findIdx?_eq_none_iff.mp hfi e he
      rw [q] at c; cases c
    have hgw : ∀ (b : Bool) {s₁ : Shared} {Q' : Unit → Shared → Prop}, Q' () s₁ → wpAny (model P w) A (match b with | true => rule "set.scan.the-table-gave-way" | false => pure ()) Q' E s₁ :=
      fun b s₁ Q' q => by cases b <;> first | exact wpAny_pure q | exact wpAny_rule q
    have pm := layNew_perm t es ((mixKind P w).hash k) v; have hf1 := layNew_fits t es ((mixKind P w).hash k) v; have hr1 := layNew_ris t es ((mixKind P w).hash k) v hr; have hl1 := layNew_led t es ((mixKind P w).hash k) v
    generalize layNew t es ((mixKind P w).hash k) v = Z at pm hf1 hr1 hl1 ⊢; obtain ⟨es1, t1, wasDummy, gave⟩ := Z; dsimp only at pm hf1 hr1 hl1 ⊢
    rw [Array.toList_push] at pm
    have pc : es1.toList.Perm (((mixKind P w).hash k, v) :: es.toList) := pm.trans (List.perm_append_singleton _ _)
    have ek : kyE ((mixKind P w).hash k, v) = k := kyV_of hv
    have pk : (es1.toList.map kyE).Perm (k :: es.toList.map kyE) := by have := pc.map kyE; rw [List.map_cons, ek] at this; exact this
    have g1 : ∀ e ∈ es1.toList, GdE w e := fun e he => by
      rcases List.mem_cons.mp (pc.mem_iff.mp he) with z | z
      · rw [z]; unfold GdE; rw [ek]; exact ⟨hv, rfl⟩
      · exact g e z
    have nd1 : (es1.toList.map kyE).Nodup := pk.nodup_iff.mpr (List.nodup_cons.mpr ⟨hnk, nd⟩)
    have m1 : ∀ i, (Ks i ∨ i = k) ↔ i ∈ es1.toList.map kyE := fun i => by rw [hm i, pk.mem_iff, List.mem_cons]; exact Or.comm
    have hz : es1.size = n + 1 := by rw [← Array.length_toList, pc.length_eq, List.length_cons, Array.length_toList, hn]
    have hb1 : es1.size < scanBound := by rw [hz]; exact room
    have hled : w.params.followText "set-order" = true ∨ t1.led = true := hl.imp id fun z => by rw [hl1]; exact z
    refine wpAny_bind (hgw _ ?_)
    split
    · refine wpAny_bind ?_; rw [hashByValue_scannable 8 hsc]; refine wpAny_pure (setM_tail (Ks' := fun j => Ks j ∨ j = k) ?_ ho hex hd g1 nd1 m1 hb1 ?_ ?_ ?_ ?_)
      · intro b s₁ Q' q; cases b <;> first | exact wpAny_pure q | exact wpAny_rule q
      · first | (split <;> first | exact hf1 | exact SetTable.fits_plain_off hf1) | exact hf1
      · first | (split <;> exact hr1) | exact hr1
      · first | (split <;> exact hled) | exact hled
      · intro h' sb r; dsimp only; exact wpAny_pure (hQ _ h' _ sb r (by omega))
    · refine wpAny_bind (wpAny_pure ?_); simp only [↓reduceIte]; refine setM_tail (Ks' := fun j => Ks j ∨ j = k) ?_ ho hex hd g1 nd1 m1 hb1 hf1 hr1 hled ?_
      · intro b s₁ Q' q; cases b <;> first | exact wpAny_pure q | exact wpAny_rule q
      · intro h' sb r; dsimp only; exact wpAny_pure (hQ _ h' _ sb r (by omega))
/-- the loop of set.update over what walks -/
theorem setM_walk {I : Addr} {fp wr : List Addr} {G : Array GenState → Array GenState → Prop} {n : Nat} {Pv : Nat → Value → Prop} {St : Nat → Shared → Prop} {R : Result → Shared → Prop}
    (W : WalksS P w A.in1 I fp wr G n Pv St) (S : Addr) (hSf : S ∉ fp) (ks : List Key) (hn : n = ks.length) (hb : ks.length + 1 < scanBound) (hval : ∀ i v, Pv i v → ∃ k, ks[i]? = some k ∧ keyIs k v = true) :
    ∀ (k i : Nat) (s : Shared), n - i = k → i ≤ n → St i s → (∃ c, c ≤ i ∧ SetM w s.heap S (fun j => j ∈ ks.take i) c) →
      (∀ s' c, Moved (S :: wr) G s s' → c ≤ n → SetM w s'.heap S (fun j => j ∈ ks) c → R (.ok (.ret .none)) s') →
      codeAny (model P w) A (.builtin "set.update.loop" ⟨[.ref S, .ref I], []⟩) R s := by
  have hSw : S ∉ wr := fun h => hSf (W.sub _ h)
  have hsub : ∀ b ∈ wr, b ∈ S :: wr := fun b hb => List.mem_cons_of_mem _ hb
  intro k
  induction k with
  | zero =>
    intro i s hk' hi hst ⟨c, hc, hS⟩ hR
    obtain rfl : i = n := by omega
    refine codeAny_builtin F.entry_set_update_loop ?_; rw [Around.under_plainId F.plain_set_update_loop _]; show wpAny _ A.in1 (pyNext (.ref I) >>= _) _ _ s
    refine wpAny_bind (W.done s _ _ hst fun s' hm => ?_); show wpAny _ A.in1 (ret Value.none) _ _ s'
    rw [List.take_of_length_le (show ks.length ≤ i by omega)] at hS
    exact wpAny_pure (hR s' c (hm.mono hsub) hc (hS.at fun o e => hm.heap S o hSw e))
  | succ k ih =>
    intro i s hk' hi hst ⟨c, hc, hS⟩ hR
    have hlt : i < n := by omega
    refine codeAny_builtin F.entry_set_update_loop ?_; rw [Around.under_plainId F.plain_set_update_loop _]; show wpAny _ A.in1 (pyNext (.ref I) >>= _) _ _ s
    refine wpAny_bind (W.item i s _ _ hlt hst fun v s' hP hst' hm => ?_)
    obtain ⟨z, hz, hv⟩ := hval i v hP
    have hS' : SetM w s'.heap S (fun j => j ∈ ks.take i) c := hS.at fun o e => hm.heap S o hSw e
    show wpAny _ A.in1 (holding [v] (setAdd S v) >>= _) _ _ s'
    refine wpAny_bind (wpAny_holding ?_); unfold setAdd; refine wpAny_holding (wpAny_bind ((mixKind P w).pyHash (k := z) hv ?_))
    refine setM_add (s := { s' with toks := s'.toks + 1 }) hv hS' (by omega) fun b h' n' hsb hS2 hn' => ?_
    have hS3 : SetM w h' S (fun j => j ∈ ks.take (i + 1)) n' := hS2.congr fun j => by
      rw [List.take_add_one, hz]
      simp [List.mem_append]
    refine wpAny_pure ⟨plainId_quiet F.plain_set_update_loop _, ih (i + 1) _ (by omega) hlt (W.frame _ s' _ _ hst' (Nat.le_succ _) fun b hb o e => ?_) ⟨_, by omega, hS3⟩ fun s'' c2 hm'' hc'' hS'' => ?_⟩
    · rw [hsb.2 b (fun h : b = S => hSf (by rw [← h]; exact hb))]; exact e
    · refine hR s'' c2 (Moved.trans W.gtrans ((hm.mono hsub).then_heap (Nat.le_succ _) fun b o hb e => ?_) hm'') hc'' hS''
      rw [hsb.2 b (fun h : b = S => hb (by rw [h]; exact List.mem_cons_self))]; exact e
abbrev freshSet (w : World) : Obj := { cls := .type "set", dict := none, data := .set #[] 0 (.fresh 0 0 (!w.params.followText "set-order")) }
theorem setM_none {ks : List Key} (ho : h.get? a = some (freshSet w)) : SetM w h a (fun j => j ∈ ks.take 0) 0 :=
  ⟨_, #[], 0, _, ho, ⟨rfl, rfl, rfl⟩, rfl, (fun e he => by simp at he), (by simp), (fun k => by simp), (by decide), (by rfl), rfl, List.Pairwise.nil, by
    show _ ∨ (!w.params.followText "set-order") = true
    cases w.params.followText "set-order"
    · exact .inr rfl
    · exact .inl rfl⟩
end
section
variable {P : Program} {w : World} {A : Around} {E : Value → Shared → Prop} {s : Shared}
theorem items_keys {ks : List Key} {us : List Value} (h : Paired (fun k v => keyIs k v = true) ks us) : ∀ (i : Nat) (v : Value), us[i]? = some v → ∃ k, ks[i]? = some k ∧ keyIs k v = true := by
  induction h with
  | nil => intro i v h; simp at h
  | cons r t ih =>
    intro i v e
    cases i with
    | zero => simp at e; subst e; exact ⟨_, rfl, r⟩
    | succ i => exact ih i v (by simpa using e)
set_option maxRecDepth 100000 in
set_option maxHeartbeats 6400000 in
/-- set(xs) of a list -/
theorem call_set_lst {l : Addr} {items : Array Value} (ks : List Key) {Q : Value → Shared → Prop} (hh : A.handled = none) (hl : s.heap.IsList l items) (hit : Paired (fun k v => keyIs k v = true) ks items.toList) (hb : ks.length + 1 < scanBound)
    (h : ∀ (h' : Heap) (tk c : Nat), SetM w h' s.heap.objs.size (fun j => j ∈ ks) c → c ≤ ks.length → (∀ b o, s.heap.get? b = some o → h'.get? b = some o) → Q (.ref s.heap.objs.size) { s with heap := h', toks := tk }) :
    wpAny (model P w) A (call (.type "set") [.ref l]) Q E s := by
  have hisz : items.size = ks.length := by have q := Paired.length hit; rw [Array.length_toList] at q; exact q.symm
  obtain ⟨c, tl, hmro⟩ := F.called_set.mro
  have hmade := F.called_set.made; have hsub := F.called_set.sub
  refine wpAny_call (codeAny_of_tree ?_); show wpAny _ _ (callAny (.type "set") _) _ _ _
  refine wpAny_pure ⟨Code.quiet_builtin _ (by decide +kernel), codeAny_builtin F.entry_type_call ?_⟩; rw [Around.under_plain (weight_type_call_type "set" [.ref l] []) rfl]
  have h1 := F.called_set.notType; have h2 := F.called_set.canCreate; have hct := F.typeCall_set_1 (.ref l)
  repeat (any_goals (first | assumption | wp_step))
  refine codeAny_mono (code_set_led1 (.ref l) (E := E) (Q₁ := fun obj s₁ => obj = .ref s.heap.objs.size ∧ s₁ = { s with heap := s.heap.push (freshSet w) }) ⟨rfl, rfl⟩) fun r s₁ hr => ?_
  cases r with
  | error e => exact hr
  | ok fl =>
    cases fl with
    | ret obj =>
      obtain ⟨rfl, rfl⟩ := hr
      have hS : (s.heap.push (freshSet w)).get? s.heap.objs.size = some (freshSet w) := Heap.get?_push_size _ rfl
      have hT : Shared.TypeIs { s with heap := s.heap.push (freshSet w) } (.ref s.heap.objs.size) "set" := ⟨_, hS, rfl⟩
      have hli := F.called_set.init.lookup; have hbi := F.called_set.init.bind (.ref s.heap.objs.size)
      repeat (any_goals (first | assumption | wp_step))
      refine codeAny_mono (codeAny_call_builtin (R := wants (fun r s₂ => r = .none ∧ ∃ h' tk c, s₂ = { s with heap := h', toks := tk } ∧ SetM w h' s.heap.objs.size (fun j => j ∈ ks) c ∧ c ≤ ks.length ∧ (∀ b o, s.heap.get? b = some o → h'.get? b = some o)) E) F.called_set.init.plain F.entry_set_init (check_set_init_1 hT ?_)) fun r₂ s₂ hr₂ => ?_
      · obtain ⟨ol, hol, hcl, nl, hdl⟩ := hl; obtain ⟨ocls, odict, odata, oslots⟩ := ol; simp only at hcl hdl; subst hcl; subst hdl
        have hol' : (s.heap.push (freshSet w)).get? l = some { cls := .type "list", dict := odict, data := .seq items nl, slots := oslots } := Heap.get?_push_of_some _ hol
        have hsls := F.sub_list_set; have hslf := F.sub_list_frozenset; have hne : (Value.type "list" == Value.type "dict") = false := by decide
        have hl1 : (s.heap.push (freshSet w)).IsList l items := ⟨_, hol', rfl, nl, rfl⟩
        unfold Builtin.«set.__init__» noKeywords Builtin.Frozenset.updateFrom
        generalize hPI : pyIter = PI; wp_walk; subst hPI
        refine wpAny_pyIter_list hl1 (wpAny_bind (wpAny_runValue ?_))
        have hlS : l < s.heap.objs.size := Heap.lt_size hol
        have hh3 : A.in1.in1.in1.handled = none := by simp [hh]
        have hz1 : (s.heap.push (freshSet w)).objs.size = s.heap.objs.size + 1 := Heap.size_push ..
        have hneI : l ≠ (s.heap.push (freshSet w)).objs.size := by rw [Heap.size_push]; exact Nat.ne_of_lt (Nat.lt_succ_of_lt hlS)
        have hSf : s.heap.objs.size ∉ [(s.heap.push (freshSet w)).objs.size, l] := by
          rw [Heap.size_push]; simp only [List.mem_cons, List.not_mem_nil, or_false, not_or]; exact ⟨Nat.ne_of_lt (Nat.lt_succ_self _), Nat.ne_of_gt hlS⟩
        have hval : ∀ (i : Nat) (v : Value), items[i]? = some v → ∃ k, ks[i]? = some k ∧ keyIs k v = true := fun i v hv => items_keys hit i v (by rw [Array.getElem?_toList]; exact hv)
        refine setM_walk ((Walks.list hh3 _ l hneI items).toS) s.heap.objs.size hSf ks hisz hb hval (items.size - 0) 0 _ (by omega) (Nat.zero_le _) ⟨⟨_, Heap.get?_push_size _ rfl, rfl, rfl⟩, (hl1.push _)⟩ ?hS0 ?hR
        case hS0 =>
          exact ⟨0, Nat.le_refl 0, setM_none (Heap.get?_push_of_some _ hS)⟩
        case hR =>
          intro s' c' hm hc' hS'; obtain ⟨h', g2, d', tk', os'⟩ := s'
          have eg : g2 = s.gens := hm.gens; have ed : d' = s.drawn := hm.drawn; have eo : os' = s.os := hm.os; subst eg; subst ed; subst eo
          show wpAny _ _ _ _ _ _; refine wpAny_pure ?_; show wpAny _ _ (ret Value.none) _ _ _; rw [hisz] at hc'
          refine wpAny_pure ⟨rfl, h', tk', c', rfl, hS', hc', fun b o e => ?_⟩
          have hb0 : b < s.heap.objs.size := Heap.lt_size e
          have hb1 : b ≠ s.heap.objs.size := Nat.ne_of_lt hb0
          have hb2 : b ≠ (s.heap.push (freshSet w)).objs.size := by rw [Heap.size_push]; exact Nat.ne_of_lt (Nat.lt_succ_of_lt hb0)
          exact hm.heap b o (by simp only [List.mem_cons, List.not_mem_nil, or_false, not_or]; exact ⟨hb1, hb2⟩) (Heap.get?_push_of_some _ (Heap.get?_push_of_some _ e))
      · cases r₂ with
        | error e => exact hr₂
        | ok fl₂ =>
          cases fl₂ with
          | ret r =>
            obtain ⟨rfl, h', tk, c', rfl, hS', hc', hk'⟩ := hr₂
            repeat (any_goals (first | assumption | wp_step))
            exact h _ _ _ hS' hc' hk'
          | _ => exact hr₂.elim
    | _ => exact hr.elim
set_option maxRecDepth 100000 in
set_option maxHeartbeats 6400000 in
/-- set(xs) of a tuple -/
theorem call_set_tup {l : Addr} {items : Array Value} (ks : List Key) {Q : Value → Shared → Prop} (hh : A.handled = none) (hl : s.heap.IsTuple l items) (hit : Paired (fun k v => keyIs k v = true) ks items.toList) (hb : ks.length + 1 < scanBound)
    (h : ∀ (h' : Heap) (tk c : Nat), SetM w h' s.heap.objs.size (fun j => j ∈ ks) c → c ≤ ks.length → (∀ b o, s.heap.get? b = some o → h'.get? b = some o) → Q (.ref s.heap.objs.size) { s with heap := h', toks := tk }) :
    wpAny (model P w) A (call (.type "set") [.ref l]) Q E s := by
  have hisz : items.size = ks.length := by have q := Paired.length hit; rw [Array.length_toList] at q; exact q.symm
  obtain ⟨c, tl, hmro⟩ := F.called_set.mro
  have hmade := F.called_set.made; have hsub := F.called_set.sub
  refine wpAny_call (codeAny_of_tree ?_); show wpAny _ _ (callAny (.type "set") _) _ _ _
  refine wpAny_pure ⟨Code.quiet_builtin _ (by decide +kernel), codeAny_builtin F.entry_type_call ?_⟩; rw [Around.under_plain (weight_type_call_type "set" [.ref l] []) rfl]
  have h1 := F.called_set.notType; have h2 := F.called_set.canCreate; have hct := F.typeCall_set_1 (.ref l)
  repeat (any_goals (first | assumption | wp_step))
  refine codeAny_mono (code_set_led1 (.ref l) (E := E) (Q₁ := fun obj s₁ => obj = .ref s.heap.objs.size ∧ s₁ = { s with heap := s.heap.push (freshSet w) }) ⟨rfl, rfl⟩) fun r s₁ hr => ?_
  cases r with
  | error e => exact hr
  | ok fl =>
    cases fl with
    | ret obj =>
      obtain ⟨rfl, rfl⟩ := hr
      have hS : (s.heap.push (freshSet w)).get? s.heap.objs.size = some (freshSet w) := Heap.get?_push_size _ rfl
      have hT : Shared.TypeIs { s with heap := s.heap.push (freshSet w) } (.ref s.heap.objs.size) "set" := ⟨_, hS, rfl⟩
      have hli := F.called_set.init.lookup; have hbi := F.called_set.init.bind (.ref s.heap.objs.size)
      repeat (any_goals (first | assumption | wp_step))
      refine codeAny_mono (codeAny_call_builtin (R := wants (fun r s₂ => r = .none ∧ ∃ h' tk c, s₂ = { s with heap := h', toks := tk } ∧ SetM w h' s.heap.objs.size (fun j => j ∈ ks) c ∧ c ≤ ks.length ∧ (∀ b o, s.heap.get? b = some o → h'.get? b = some o)) E) F.called_set.init.plain F.entry_set_init (check_set_init_1 hT ?_)) fun r₂ s₂ hr₂ => ?_
      · obtain ⟨ol, hol, hcl, nl, hdl⟩ := hl; obtain ⟨ocls, odict, odata, oslots⟩ := ol; simp only at hcl hdl; subst hcl; subst hdl
        have hol' : (s.heap.push (freshSet w)).get? l = some { cls := .type "tuple", dict := odict, data := .seq items nl, slots := oslots } := Heap.get?_push_of_some _ hol
        have hsls := F.sub_tuple_set; have hslf := F.sub_tuple_frozenset; have hne : (Value.type "tuple" == Value.type "dict") = false := by decide
        have hl1 : (s.heap.push (freshSet w)).IsTuple l items := ⟨_, hol', rfl, nl, rfl⟩
        unfold Builtin.«set.__init__» noKeywords Builtin.Frozenset.updateFrom
        generalize hPI : pyIter = PI; wp_walk; subst hPI
        refine wpAny_pyIter_tuple hl1 (wpAny_bind (wpAny_runValue ?_))
        have hlS : l < s.heap.objs.size := Heap.lt_size hol
        have hh3 : A.in1.in1.in1.handled = none := by simp [hh]
        have hz1 : (s.heap.push (freshSet w)).objs.size = s.heap.objs.size + 1 := Heap.size_push ..
        have hneI : l ≠ (s.heap.push (freshSet w)).objs.size := by rw [Heap.size_push]; exact Nat.ne_of_lt (Nat.lt_succ_of_lt hlS)
        have hSf : s.heap.objs.size ∉ [(s.heap.push (freshSet w)).objs.size, l] := by
          rw [Heap.size_push]; simp only [List.mem_cons, List.not_mem_nil, or_false, not_or]; exact ⟨Nat.ne_of_lt (Nat.lt_succ_self _), Nat.ne_of_gt hlS⟩
        have hval : ∀ (i : Nat) (v : Value), items[i]? = some v → ∃ k, ks[i]? = some k ∧ keyIs k v = true := fun i v hv => items_keys hit i v (by rw [Array.getElem?_toList]; exact hv)
        refine setM_walk ((Walks.tuple hh3 _ l hneI items).toS) s.heap.objs.size hSf ks hisz hb hval (items.size - 0) 0 _ (by omega) (Nat.zero_le _) ⟨⟨_, Heap.get?_push_size _ rfl, rfl, rfl⟩, (hl1.push _)⟩ ?hS0 ?hR
        case hS0 =>
          exact ⟨0, Nat.le_refl 0, setM_none (Heap.get?_push_of_some _ hS)⟩
        case hR =>
          intro s' c' hm hc' hS'; obtain ⟨h', g2, d', tk', os'⟩ := s'
          have eg : g2 = s.gens := hm.gens; have ed : d' = s.drawn := hm.drawn; have eo : os' = s.os := hm.os; subst eg; subst ed; subst eo
          show wpAny _ _ _ _ _ _; refine wpAny_pure ?_; show wpAny _ _ (ret Value.none) _ _ _; rw [hisz] at hc'
          refine wpAny_pure ⟨rfl, h', tk', c', rfl, hS', hc', fun b o e => ?_⟩
          have hb0 : b < s.heap.objs.size := Heap.lt_size e
          have hb1 : b ≠ s.heap.objs.size := Nat.ne_of_lt hb0
          have hb2 : b ≠ (s.heap.push (freshSet w)).objs.size := by rw [Heap.size_push]; exact Nat.ne_of_lt (Nat.lt_succ_of_lt hb0)
          exact hm.heap b o (by simp only [List.mem_cons, List.not_mem_nil, or_false, not_or]; exact ⟨hb1, hb2⟩) (Heap.get?_push_of_some _ (Heap.get?_push_of_some _ e))
      · cases r₂ with
        | error e => exact hr₂
        | ok fl₂ =>
          cases fl₂ with
          | ret r =>
            obtain ⟨rfl, h', tk, c', rfl, hS', hc', hk'⟩ := hr₂
            repeat (any_goals (first | assumption | wp_step))
            exact h _ _ _ hS' hc' hk'
          | _ => exact hr₂.elim
    | _ => exact hr.elim

end
end Pw
namespace Pw
open PySem PySem.Spec PyProof.Rows L2
section
/-! .. as rules -/
def SetMO (w : World) (a : Addr) (Ks : Key → Prop) (n : Nat) : HO := .ext fun h => SetM w h a Ks n
theorem setMO_new {P : Program} {H : Hp} {h : Heap} {a : Addr} {Ks : Key → Prop} {n : Nat} (R : SetM w h a Ks n) : ObjOk P w H h a (SetMO w a Ks n) := by
  have ⟨o, _, _, _, ho, _⟩ := R.ob
  exact ⟨R, ⟨o, ho⟩, fun h1 h2 p k => SetM.at p k⟩
theorem setMO_get {X : Cx} {pins : List (Addr × Obj)} {σ : L2.St} {H : Hp} {s : Shared} {a : Addr} {Ks : Key → Prop} {n : Nat} (I : Inv X pins σ H s) (ha : H a = some (SetMO X.w a Ks n)) : SetM X.w s.heap a Ks n := (I.hok a _ ha).1
def rSetS (w : World) (K : PySem.W.Frag) (ks : List Key) : List V → Hp → VK → Prop := fun vs H Q => ∃ a xs, vs = [.ref a] ∧ (SqL K H a xs ∨ SqT K H a xs) ∧ xs = ks.map kV ∧ ks.length + 1 < scanBound ∧
  ∀ p n, H p = none → n ≤ ks.length → Q (.ref p) (upd H p (SetMO w p (fun k => k ∈ ks) n))
theorem keyIs_of {k : Key} {u : Value} (r : RelV (kV k) u) : keyIs k u = true := by
  cases k with
  | inl i => obtain ⟨t, rfl⟩ := (show ∃ t, u = Value.int i t from r); exact keyIs_int i t
  | inr x => obtain ⟨t, rfl⟩ := (show ∃ t, u = Value.str x t from r); exact keyIs_str x t
theorem keys_paired : ∀ {ks : List Key} {us : List Value}, Vals (ks.map kV) us → Paired (fun k v => keyIs k v = true) ks us
  | [], _, r => by rw [List.map_nil] at r; cases r; exact .nil
  | k :: ks, _, r => by
    rw [List.map_cons] at r
    cases r with
    | cons h t => exact .cons (keyIs_of h) (keys_paired t)
theorem cr_setS {X : Cx} {G : Cxt} (ok : G.Ok X) {ks : List Key} : CallR X (.type "set") (rSetS X.w X.K ks) := fun pins s σ H vs us Q I r ⟨a, xs, e, hs, ex, hb, q⟩ => by
  subst e ex
  rw [Vals.ref1 r]
  have fin : ∀ (h' : Heap) (tk c : Nat), SetM X.w h' s.heap.objs.size (fun j => j ∈ ks) c → c ≤ ks.length → (∀ b o, s.heap.get? b = some o → h'.get? b = some o) → EP X pins σ Q (.ref s.heap.objs.size) { s with heap := h', toks := tk } := fun h' tk c R hc hk =>
    ⟨.ref _, upd H s.heap.objs.size (SetMO X.w s.heap.objs.size (fun j => j ∈ ks) c), I.laid (t' := tk) (fun b u e => hk b u e) (Nat.le_refl _) (setMO_new R), rfl, q _ _ (I.hok.fresh (Nat.le_refl _)) hc⟩
  rcases hs with hs | hs
  · obtain ⟨its, rv, pl, _⟩ := I.list hs
    exact call_set_lst ks (I.ok.hd ok.calm) pl.isList (by simpa using keys_paired rv) hb fin
  · obtain ⟨its, rv, pl, _⟩ := I.tuple hs
    exact call_set_tup ks (I.ok.hd ok.calm) pl (by simpa using keys_paired rv) hb fin

end
/-! sorted(set) -/
section
open PySem.W
variable {P : Program} {w : World} {A : Around} {E : Value → Shared → Prop} {s : Shared}
theorem sorted_setM {a : Addr} {Ks : Key → Prop} {n : Nat} {Q : Value → Shared → Prop} (R : SetM w s.heap a Ks n) (hh : A.handled = none)
    (srt : ∀ (s1 : Shared) (ks : List Key) (vs : List Value), ks.Nodup → (∀ k, k ∈ ks ↔ Ks k) → Paired (fun k v => keyIs k v = true) ks vs → vs.length ≤ sizeLine → ∃ κ, SortsAt P w A.in1.in1 { s1 with heap := sortingHeap (s1.heap.push (seqObj "list" vs.toArray 0)) s1.heap.objs.size vs } κ vs ∧
      ∀ (s' : Shared) p c, (∀ b o, s.heap.get? b = some o → s'.heap.get? b = some o) → s'.gens = s.gens → s'.os = s.os → s.heap.objs.size ≤ p → s'.heap.get? p = some (seqObj "list" (sortVals κ false vs vs).toArray c) → Q (.ref p) s') :
    wpAny (model P w) A (call (.builtin "sorted") [.ref a]) Q E s := by
  obtain ⟨o, es, ep, t, ho, hex, hd, g, nd, hm, hb, hf, hn, hr, hl⟩ := R.ob
  refine call_function_entry_kw kind_sorted plain_sorted entry_sorted (args_sorted1 _) ?_; unfold Builtin.«sorted»; refine wpAny_bind (m := checkCount "sorted" 1 1 _) (wpAny_pure ?_)
  refine wpAny_bind (collect_set (A := A.in1) hh ⟨o, ho, hex.1, hd⟩ hf hb hr hl fun s1 vs k1 hz g1 o1 pm => ?_)
  have hvl : vs.length = es.size := by rw [pm.length_eq, List.length_map, Array.length_toList]
  have hL : vs.length ≤ sizeLine := by rw [hvl]; exact fits_of_scanBound hb
  have hv : ∀ v ∈ vs, keyIs (kyV v) v = true := fun v hv => by
    obtain ⟨e, he, q⟩ := List.mem_map.mp (pm.mem_iff.mp hv)
    subst q
    exact (g e he).1
  have pk : (vs.map kyV).Perm (es.toList.map kyE) := by have q := pm.map kyV; rw [List.map_map] at q; exact q
  have pr : ∀ us : List Value, (∀ v ∈ us, keyIs (kyV v) v = true) → Paired (fun k v => keyIs k v = true) (us.map kyV) us := fun us => by
    induction us with
    | nil => intro _; exact .nil
    | cons u us ih => intro h; exact .cons (h u List.mem_cons_self) (ih fun v hv => h v (List.mem_cons_of_mem _ hv))
  obtain ⟨κ, S, fin⟩ := srt s1 (vs.map kyV) vs (pk.nodup_iff.mpr nd) (fun k => by rw [pk.mem_iff, hm]) (pr vs hv) hL
  refine wpAny_bind (wpAny_newList ?_ hL)
  have hoL : (s1.heap.push (seqObj "list" vs.toArray 0)).get? s1.heap.objs.size = some (seqObj "list" vs.toArray 0) := Heap.get?_push_size _ rfl
  refine wpAny_bind (wpAny_holding (wpAny_call_entry_kw slot_list_sort ⟨_, hoL, rfl⟩ entry_list_sort ?_ (args_list_sort _)))
  show wpAny (model P w) A.in1.in1 (Builtin.«list.sort» ⟨[.ref s1.heap.objs.size], []⟩) _ _ _
  refine wpAny_mono (list_sort_vals (P := fun f s' => f = .done (.ret .none) ∧ s' = { s1 with heap := sortedHeap (s1.heap.push (seqObj "list" vs.toArray 0)) s1.heap.objs.size vs (sortVals κ false vs vs).toArray }) (s := { s1 with heap := s1.heap.push (seqObj "list" vs.toArray 0) }) hoL S hL ⟨rfl, rfl⟩) (fun f s' hf => ?_) fun _ _ z => z
  obtain ⟨rfl, rfl⟩ := hf
  obtain ⟨c, hc⟩ := sortedHeap_at (vs := vs) (out := (sortVals κ false vs vs).toArray) hoL
  refine ⟨_, rfl, wpAny_pure ⟨_, rfl, fin _ s1.heap.objs.size c (fun b u e => ?_) g1 o1 hz hc⟩⟩
  have q := k1 b u e
  have hlt := Heap.lt_size q
  show (sortedHeap (s1.heap.push (seqObj "list" vs.toArray 0)) s1.heap.objs.size vs _).get? b = some u
  rw [sortedHeap_old (Nat.ne_of_lt hlt) (by rw [size_push']; exact Nat.lt_succ_of_lt hlt)]; exact Heap.get?_push_of_some _ q
end
section
open PySem.W
variable {α : Type} [DecidableEq α] [Enc α] [KeyE α]
theorem read_key {x : α} {u : Value} {h : Heap} (r : keyIs (KeyE.key x) u = true) : PySem.Reads h u (Enc.enc x) [] := by
  rw [← KeyE.kd x]
  rcases keyIs_shape r with ⟨i, t, e, rfl⟩ | ⟨y, t, e, rfl⟩ <;> rw [e] <;> first | exact .int i t | exact .str y t
theorem rel_key {x : α} {u : Value} (r : keyIs (KeyE.key x) u = true) : RelV (kV (KeyE.key x)) u := by
  rcases keyIs_shape r with ⟨i, t, e, rfl⟩ | ⟨y, t, e, rfl⟩ <;> rw [e] <;> exact ⟨t, rfl⟩
def rSortS (w : World) (xs : List α) : List V → Hp → VK → Prop := fun vs H Q => ∃ a n, vs = [.ref a] ∧ H a = some (SetMO w a (fun k => k ∈ xs.map KeyE.key) n) ∧ ∀ p, H p = none → Q (.ref p) (upd H p (.lst ((sortE (setE xs)).map fun x => kV (KeyE.key x))))
theorem key_list : ∀ {ks : List Key}, (∀ k ∈ ks, ∃ x : α, KeyE.key x = k) → ∃ xs : List α, xs.map KeyE.key = ks
  | [], _ => ⟨[], rfl⟩
  | k :: ks, h => by
    obtain ⟨x, e⟩ := h k List.mem_cons_self
    obtain ⟨xs, e2⟩ := key_list (ks := ks) fun j hj => h j (List.mem_cons_of_mem _ hj)
    exact ⟨x :: xs, by rw [List.map_cons, e, e2]⟩
theorem each_keys {R : Value → α → Prop} (hR : ∀ u x, keyIs (KeyE.key x) u = true → R u x) : ∀ {ys : List α} {vs : List Value}, Paired (fun k v => keyIs k v = true) (ys.map KeyE.key) vs → EachIs R vs ys
  | [], _, h => by rw [List.map_nil] at h; cases h; exact .nil
  | y :: ys, _, h => by
    rw [List.map_cons] at h
    cases h with
    | cons r t => exact .cons (hR _ _ r) (each_keys hR t)
theorem each_rel : ∀ {ys : List α} {vs : List Value}, EachIs (fun u x => RelV (kV (KeyE.key x)) u) vs ys → Vals (ys.map fun x => kV (KeyE.key x)) vs
  | _, _, .nil => .nil
  | _, _, .cons r t => .cons r (each_rel t)
theorem cr_sortS {X : Cx} {G : Cxt} (ok : G.Ok X) [EncA α] {xs : List α} (hd : Enc.dp α ≤ 100) : CallR X (.builtin "sorted") (rSortS X.w xs) := fun pins s σ H vs us Q I r ⟨a, n, e, ha, q⟩ => by
  subst e
  rw [Vals.ref1 r]
  refine sorted_setM (setMO_get I ha) (I.ok.hd ok.calm) (srt := fun s1 ks its nd hk hp hL => ?_)
  obtain ⟨ys, rfl⟩ := key_list (α := α) (ks := ks) fun k z => by
    obtain ⟨x, _, e⟩ := List.mem_map.mp ((hk k).mp z)
    exact ⟨x, e⟩
  have ndy : ys.Nodup := by
    refine (List.pairwise_map.mp nd).imp fun h e => h ?_
    rw [e]
  have pm : ys.Perm (setE xs) := by
    refine (List.perm_ext_iff_of_nodup ndy (setE_nodup xs)).mpr fun y => ?_
    rw [setE_mem]
    have := hk (KeyE.key y)
    rw [List.mem_map, List.mem_map] at this
    constructor
    · intro h
      obtain ⟨x, hx, e⟩ := this.mp ⟨y, h, rfl⟩
      exact KeyE.inj _ _ e ▸ hx
    · intro h
      obtain ⟨x, hx, e⟩ := this.mpr ⟨y, h, rfl⟩
      exact KeyE.inj _ _ e ▸ hx
  have er : EachIs (fun u (x : α) => RelV (kV (KeyE.key x)) u) its ys := each_keys (fun _ _ => rel_key) hp
  have eh : ∀ h : Heap, EachIs (fun u (x : α) => ∃ as, PySem.Reads h u (Enc.enc x) as) its ys := fun h => each_keys (fun _ _ z => ⟨_, read_key z⟩) hp
  refine ⟨dataKind (sortingHeap (s1.heap.push (seqObj "list" its.toArray 0)) s1.heap.objs.size its) (ys.map Enc.enc), Pw.SortsAt.data' (s := { s1 with heap := sortingHeap (s1.heap.push (seqObj "list" its.toArray 0)) s1.heap.objs.size its }) (each_map (R := fun u d => ∃ as, PySem.Reads _ u d as) Enc.enc (eh _)) (AllAlike.of EncL.al) (EncA.so ys) (fun d z => ?_), fun s' p c hk hg ho hz hat => ?_⟩
  · obtain ⟨y, _, rfl⟩ := List.mem_map.mp z
    have := ok.un
    have := Enc.depth y
    show X.A.units + 2 + (Enc.enc y).depth < cLine
    omega
  · have e1 := sortVals_data false er (eh (sortingHeap (s1.heap.push (seqObj "list" its.toArray 0)) s1.heap.objs.size its)) (AllAlike.of (enc := Enc.enc) EncL.al)
    have e2 := each_rel e1
    have ee : ys.mergeSort (dataLe false Enc.enc) = sortE (setE xs) := sortE_eq pm
    rw [ee] at e2
    have hn : H p = none := I.hok.fresh hz
    have hlen : ((sortE (setE xs)).map fun x => kV (KeyE.key x)).length ≤ sizeLine := by rw [e2.length, sortVals_length false rfl]; exact hL
    have J : Inv X pins σ (upd H p (.lst ((sortE (setE xs)).map fun x => kV (KeyE.key x)))) { s with heap := s'.heap, gens := s'.gens, drawn := s'.drawn, toks := s'.toks } :=
      I.call (ch := []) (Un.laid hk hz hn) (I.hok.laid hk hz ⟨hlen, _, c, e2, hat⟩) (by rw [hg]; exact I.bare) (fun _ z => nomatch z)
    have e : s' = { s with heap := s'.heap, gens := s'.gens, drawn := s'.drawn, toks := s'.toks } := by cases s'; cases s; cases ho; rfl
    rw [e]
    exact ⟨.ref p, _, J, rfl, q p hn⟩
end
end Pw
namespace Pw
open PySem PySem.Spec L2
theorem bo_set : bootBuiltins "set" = some (Value.type "set") := by decide +kernel
def chkS (n : Nat) : Option Unit := if n + 1 < 4096 then some () else none
theorem chkS_ok {n : Nat} {u : Unit} (h : chkS n = some u) : n + 1 < scanBound := of_ite h
section
variable {α : Type} [DecidableEq α] [Enc α] [KeyE α] {K : PySem.W.Frag} {A : AP} {H : Hp}
theorem rep_keyV {v : V} {x : α} (h : Rep K A H v (Enc.enc x)) : v = kV (KeyE.key x) := by
  rw [← KeyE.kd x] at h
  cases q : KeyE.key x with
  | inl i => rw [q] at h; exact rep_int h
  | inr y => rw [q] at h; exact rep_str h
theorem reps_keyV : ∀ {vs : List V} {xs : List α}, Reps K A H vs (xs.map Enc.enc) → vs = (xs.map KeyE.key).map kV
  | _, [], .nil => rfl
  | _, x :: xs, .cons r t => by rw [List.map_cons, List.map_cons, rep_keyV r, reps_keyV t]
theorem keyV_reps : ∀ {xs : List α}, Reps K A H (xs.map fun x => kV (KeyE.key x)) (xs.map Enc.enc)
  | [] => .nil
  | x :: xs => .cons (by rw [← KeyE.kd x]; exact key_rep) keyV_reps
end
section
variable {α : Type} [DecidableEq α] [Enc α] [KeyE α] [EncA α] {G : Cxt} {S S1 : List Sl} {e : Expr} {xs : List α} {p1 p2 pos pos2 : Pos} {u : Unit}
theorem df_sortSetL (hx : G.blt.elem ("sorted" : Str) = true) (hx2 : G.blt.elem ("set" : Str) = true) (h : DB G e S (.lst (xs.map Enc.enc)) S1) (hz : chkS xs.length = some u) (hd : Enc.dp α ≤ 100 := by decide)
    (hs2 : ∀ env, starEach [e] env = (false, eval e env) :: starEach [] env := by intro _; rfl) (hp2 : ∀ env, (backTo pos2 (starEach ([] : List Expr) env)).any (·.1) = false := by intro _; rfl)
    (hs : ∀ env, starEach [Expr.Call (.Name "set" p2) [e] [] pos2] env = (false, eval (Expr.Call (.Name "set" p2) [e] [] pos2) env) :: starEach [] env := by intro _; rfl) (hp : ∀ env, (backTo pos (starEach ([] : List Expr) env)).any (·.1) = false := by intro _; rfl) :
    DF G (.Call (.Name "sorted" p1) [.Call (.Name "set" p2) [e] [] pos2] [] pos) S (.lst ((sortE (setE xs)).map Enc.enc)) S1 := fun X ok => by
  obtain ⟨hg, hm, _, _⟩ := ok.gl (elem_mem hx)
  obtain ⟨hg2, hm2, _, _⟩ := ok.gl (elem_mem hx2)
  refine PE_weak (pe_callB (cr_sortS (xs := xs) ok hd) hg hm bo_sorted (pa_cons (pe_callTy (cr_setS ok (ks := xs.map KeyE.key)) hg2 hm2 bo_set (pa_b (h X ok) (hs2 _)) (by decide) (by decide) (hs2 _) (hp2 _)) pa_nil (hs _)) (by decide) (by decide) (hs _) (hp _)) fun σ H Q ⟨B, hh, kk⟩ => ⟨B, hh, fun p H1 h1 r1 ⟨vs, la, rs⟩ => ?_⟩
  refine ⟨p, vs, rfl, .inl la.sq, reps_keyV rs, by rw [List.length_map]; exact chkS_ok hz, fun q n hq hn => ⟨q, n, rfl, upd_same, fun p2 hp2 => ?_⟩⟩
  have k1 : ∀ a o, H1 a = some o → upd H1 q (SetMO X.w q (fun k => k ∈ xs.map KeyE.key) n) a = some o := upd_keep hq
  have h2 := h1.same k1
  have r2 := r1.trans (Rel.same k1)
  exact kk p2 _ (r2.free hp2) (h2.free hp2) (h2.newB hp2 trivial) (r2.trans (Rel.same (upd_keep hp2))) ⟨_, upd_same, keyV_reps⟩
theorem df_sortSetT (hx : G.blt.elem ("sorted" : Str) = true) (hx2 : G.blt.elem ("set" : Str) = true) (h : DE G e S (.tuple (xs.map Enc.enc)) S1) (hz : chkS xs.length = some u) (hd : Enc.dp α ≤ 100 := by decide)
    (hs2 : ∀ env, starEach [e] env = (false, eval e env) :: starEach [] env := by intro _; rfl) (hp2 : ∀ env, (backTo pos2 (starEach ([] : List Expr) env)).any (·.1) = false := by intro _; rfl)
    (hs : ∀ env, starEach [Expr.Call (.Name "set" p2) [e] [] pos2] env = (false, eval (Expr.Call (.Name "set" p2) [e] [] pos2) env) :: starEach [] env := by intro _; rfl) (hp : ∀ env, (backTo pos (starEach ([] : List Expr) env)).any (·.1) = false := by intro _; rfl) :
    DF G (.Call (.Name "sorted" p1) [.Call (.Name "set" p2) [e] [] pos2] [] pos) S (.lst ((sortE (setE xs)).map Enc.enc)) S1 := fun X ok => by
  obtain ⟨hg, hm, _, _⟩ := ok.gl (elem_mem hx)
  obtain ⟨hg2, hm2, _, _⟩ := ok.gl (elem_mem hx2)
  refine PE_weak (pe_callB (cr_sortS (xs := xs) ok hd) hg hm bo_sorted (pa_cons (pe_callTy (cr_setS ok (ks := xs.map KeyE.key)) hg2 hm2 bo_set (dd_one h hs2 X ok) (by decide) (by decide) (hs2 _) (hp2 _)) pa_nil (hs _)) (by decide) (by decide) (hs _) (hp _)) fun σ H Q ⟨B, hh, kk⟩ => ⟨B, hh, fun vs0 H1 h1 r1 q1 => ?_⟩
  obtain ⟨v, rfl, rv⟩ := reps_one q1
  cases rv with
  | @tup p vs _ la rs =>
    refine ⟨p, vs, rfl, .inr la.sq, reps_keyV rs, by rw [List.length_map]; exact chkS_ok hz, fun q n hq hn => ⟨q, n, rfl, upd_same, fun p2 hp2 => ?_⟩⟩
    have k1 : ∀ a o, H1 a = some o → upd H1 q (SetMO X.w q (fun k => k ∈ xs.map KeyE.key) n) a = some o := upd_keep hq
    have h2 := h1.same k1
    have r2 := r1.trans (Rel.same k1)
    exact kk p2 _ (r2.free hp2) (h2.free hp2) (h2.newB hp2 trivial) (r2.trans (Rel.same (upd_keep hp2))) ⟨_, upd_same, keyV_reps⟩
end

/-! ### products and quotients of any size -/
section
variable {G : Cxt} {S S1 S2 : List Sl} {a b : Expr} {pos : Pos} {i j : Int} {u : Unit}
def chkMW (i j : Int) : Option Unit := if i.natAbs.log2 + j.natAbs.log2 < 1000000 then some () else none
def chkDW (j : Int) : Option Unit := if 0 < j ∧ j.natAbs.log2 < 9000 then some () else none
theorem de_mulW (ha : DE G a S (.int i) S1) (hb : DE G b S1 (.int j) S2) (h : chkMW i j = some u) : DE G (.BinOp a .Mult b pos) S (.int (i * j)) S2 := de_op (fun _ _ => op_mulW) ha hb fun _ => sca_I (C := CMulW) (show CMulW i j from of_ite (p := i.natAbs.log2 + j.natAbs.log2 < 1000000) h)
theorem de_fdivW (ha : DE G a S (.int i) S1) (hb : DE G b S1 (.int j) S2) (h : chkDW j = some u) : DE G (.BinOp a .FloorDiv b pos) S (.int (i / j)) S2 := de_op (fun _ _ => op_fdivW) ha hb fun _ => sca_I (C := CDivW) (show CDivW i j from of_ite (p := 0 < j ∧ j.natAbs.log2 < 9000) h)
end

/-! ### a list gets another name: it moves -/
section
variable {G : Cxt} {S S1 : List Sl} {x y : Str} {i j : Nat} {o : Ob} {p1 p2 pos : Pos} {K : PySem.W.Frag} {B : AP} {σ : L2.St} {H : Hp}
theorem Holds.move (h : Holds K B S σ H) {p : Addr} (ne : j ≠ i) (hj : S[j]? = some (.own o)) (er : σ[j]? = some (some (V.ref p))) (hio : ∀ o, S[i]? ≠ some (Sl.io o)) :
    Holds K B ((S.set j .un).set i (.own o)) (σ.set i (some (.ref p))) H ∧ Rel S σ H ((S.set j .un).set i (.own o)) (σ.set i (some (.ref p))) H := by
  have ow : ∀ a, OwnA ((S.set j .un).set i (.own o)) (σ.set i (some (.ref p))) a → OwnA S σ a := fun a ⟨k, s, e, hs, ek⟩ => by
    rcases get_set e with ⟨rfl, rfl, _⟩ | ⟨n1, e⟩
    · rcases get_set ek with ⟨_, e2, _⟩ | ⟨n, _⟩
      · cases e2; exact ⟨j, _, hj, rfl, er⟩
      · exact absurd rfl n
    · rw [List.getElem?_set_ne n1] at ek
      rcases get_set e with ⟨rfl, rfl, _⟩ | ⟨n2, e⟩
      · cases hs
      · exact ⟨k, s, e, hs, ek⟩
  have av : ∀ a, Av ((S.set j .un).set i (.own o)) (σ.set i (some (.ref p))) B a → Av S σ B a := fun a z => z.imp (ow a) id
  have c : Car (Av S σ B) (Av ((S.set j .un).set i (.own o)) (σ.set i (some (.ref p))) B) H H := ⟨fun a xs n q => ⟨fun z => n (av a z), q⟩, fun a xs n q => ⟨fun z => n (av a z), q⟩⟩
  refine ⟨⟨by simp only [List.length_set]; exact h.len, fun k s e => ?_, fun k l s t a e1 e2 o1 o2 r1 r2 => ?_, h.bm⟩, ⟨fun a u e _ => e, fun a z => .inl (ow a z), fun k o' e => ?_, by simp only [List.length_set], fun k o' e => ?_, fun k s e hl => ?_, fun a u e => ⟨u, e⟩⟩⟩
  · rcases get_set e with ⟨rfl, rfl, hl⟩ | ⟨n1, e⟩
    · obtain ⟨a, ea, q⟩ := h.sl j _ hj
      rw [er] at ea; cases ea
      rw [List.length_set] at hl
      exact ⟨p, by rw [List.getElem?_set_self (by rw [← h.len]; exact hl)], q.car c fun _ z => z⟩
    · rw [List.getElem?_set_ne n1]
      rcases get_set e with ⟨rfl, rfl, _⟩ | ⟨n2, e⟩
      · trivial
      · exact (h.sl k s e).car c (fun a u n z => ⟨fun w => n (ow a w), z⟩) fun _ _ _ _ z => z
  · rcases get_set e1 with ⟨rfl, rfl, _⟩ | ⟨n1, e1⟩
    · rcases get_set e2 with ⟨rfl, rfl, _⟩ | ⟨n2, e2⟩
      · rfl
      · exfalso
        rw [List.getElem?_set_ne n2] at r2
        rcases get_set r1 with ⟨_, e3, _⟩ | ⟨n, _⟩
        · cases e3
          rcases get_set e2 with ⟨rfl, rfl, _⟩ | ⟨n3, e2⟩
          · cases o2
          · exact n3 (h.inj j l _ _ _ hj e2 rfl o2 er r2)
        · exact n rfl
    · rw [List.getElem?_set_ne n1] at r1
      rcases get_set e2 with ⟨rfl, rfl, _⟩ | ⟨n2, e2⟩
      · exfalso
        rcases get_set r2 with ⟨_, e3, _⟩ | ⟨n, _⟩
        · cases e3
          rcases get_set e1 with ⟨rfl, rfl, _⟩ | ⟨n3, e1⟩
          · cases o1
          · exact n3 (h.inj j k _ _ _ hj e1 rfl o1 er r1)
        · exact n rfl
      · rw [List.getElem?_set_ne n2] at r2
        rcases get_set e1 with ⟨rfl, rfl, _⟩ | ⟨n3, e1⟩
        · cases o1
        · rcases get_set e2 with ⟨rfl, rfl, _⟩ | ⟨n4, e2⟩
          · cases o2
          · exact h.inj k l s t a e1 e2 o1 o2 r1 r2
  · have n1 : i ≠ k := fun z => by subst z; exact hio _ e
    have n2 : j ≠ k := fun z => by subst z; rw [hj] at e; cases e
    exact ⟨List.getElem?_set_ne n1, o', by rw [List.getElem?_set_ne n1, List.getElem?_set_ne n2]; exact e⟩
  · rcases get_set e with ⟨rfl, e2, _⟩ | ⟨n1, e⟩
    · cases e2
    · rcases get_set e with ⟨rfl, e2, _⟩ | ⟨n2, e⟩
      · cases e2
      · exact ⟨o', e⟩
  · rcases get_set e with ⟨rfl, e2, _⟩ | ⟨n1, e⟩
    · subst e2; cases hl
    · rcases get_set e with ⟨rfl, e2, _⟩ | ⟨n2, e⟩
      · subst e2; cases hl
      · exact ⟨e, List.getElem?_set_ne n1⟩
theorem ds_move (hx : G.tab.lookup x = some i) (hl : G.loc.elem x = true) (hy : G.tab.lookup y = some j) (ne : j ≠ i) (hj : S[j]? = some (.own o)) (hio : noIo S i = true := by rfl)
    (hs : ∀ env, swapsWith (.Name y p2) (some (.Name x p1)) pos.line env = Pure.pure false := by intro _; rfl) : DS G (.Assign [.Name x p1] (.Name y p2) pos) S (.nx ((S.set j .un).set i (.own o))) := fun X ok => by
  obtain ⟨h1, _⟩ := ok.var hx
  obtain ⟨l1, l2⟩ := ok.st (elem_mem hl)
  obtain ⟨y1, y2, y3, y4⟩ := ok.var hy
  refine PS_weak (ps_set ok.nd h1 l1 (pe_var y1 y2 y3 y4) (hs _) l2) fun D σ H ⟨B, hh, k⟩ => ?_
  obtain ⟨p, er, q⟩ := hh.sl j _ hj
  refine ⟨.ref p, er, ?_⟩
  obtain ⟨a1, a2⟩ := hh.move ne hj er (noIo_of hio)
  exact k _ H a1 a2
end
end Pw
namespace Pw
open PySem PySem.Spec L2
section
variable {α β τ ρ : Type} {G : Cxt} {S S' S1 S2 S3 : List Sl} {a b c e f tg value : Expr} {es rest : List Expr} {body sts : List Stmt} {st : Stmt} {d d1 d2 : PyData} {ds ds1 ds2 : List PyData} {o o' : Ob} {s s1 : Sl} {pos p1 p2 p3 : Pos} {K : PySem.W.Frag} {A B : AP} {σ σ' : L2.St} {H H' : Hp} {p : Addr} {v : V} {k1 k2 : Bool} {i j : Nat} {x y : Str} {R : Rz} {m n : Int} {u : Unit}
/-! ### t += u, tuples -/
theorem no_iadd_tuple : typeLookup (.type "tuple") (dunderI "add") = pure none := by kernel_rfl
open PyProof.Rows HT in
theorem icat_tup {prog : Program} {w : World} {A : Around} {E : Value → Shared → Prop} {s : Shared} {t b : Addr} {vs ws : List Value} {Q : Value → Shared → Prop} (ht : IsTup s.heap t vs.toArray) (hb : IsTup s.heap b ws.toArray)
    (h0 : vs = [] → Q (.ref b) s) (h1 : vs ≠ [] → ws = [] → Q (.ref t) s) (h2 : vs ≠ [] → ws ≠ [] → Q (.ref s.heap.objs.size) { s with heap := s.heap.push { cls := .type "tuple", data := .seq (vs ++ ws).toArray } })
    (hsz : vs.length + ws.length ≤ sizeLine) : wpAny (model prog w) A (inplaceOp .Add (.ref t) (.ref b)) Q E s := by
  obtain ⟨⟨c1, dd1, data1, sl1⟩, ho, hc, n1, hd⟩ := id ht
  obtain ⟨⟨c2, dd2, data2, sl2⟩, ho2, hc2, n2, hd2⟩ := id hb
  simp only at hc hd hc2 hd2
  subst hc hd hc2 hd2
  have e : vs.toArray ++ ws.toArray = (vs ++ ws).toArray := by simp
  by_cases hv : vs = []
  · subst hv
    exact wpAny_inplaceOp_concat ⟨_, ho, rfl⟩ ⟨_, ho2, rfl⟩ no_iadd_tuple noFill_tuple_add seq_tuple_add (call_meets PySem.F.slot_tuple_add ⟨_, ho, rfl⟩ PySem.F.entry_tuple_add (PySem.F.args_tuple_add_2 _ _) (tuple_addW0 t b ([] : List Value).toArray ws.toArray n1 n2 dd1 dd2 sl1 sl2 (by simp)) ⟨ho, ho2, h0 rfl⟩)
  · by_cases hw : ws = []
    · exact wpAny_inplaceOp_concat ⟨_, ho, rfl⟩ ⟨_, ho2, rfl⟩ no_iadd_tuple noFill_tuple_add seq_tuple_add (call_meets PySem.F.slot_tuple_add ⟨_, ho, rfl⟩ PySem.F.entry_tuple_add (PySem.F.args_tuple_add_2 _ _) (tuple_addW1 t b vs.toArray ws.toArray n1 n2 dd1 dd2 sl1 sl2 (by simpa using hv) (by simp [hw])) ⟨ho, ho2, h1 hv hw⟩)
    · refine wpAny_inplaceOp_concat ⟨_, ho, rfl⟩ ⟨_, ho2, rfl⟩ no_iadd_tuple noFill_tuple_add seq_tuple_add (call_meets PySem.F.slot_tuple_add ⟨_, ho, rfl⟩ PySem.F.entry_tuple_add (PySem.F.args_tuple_add_2 _ _) (tuple_addW2 t b vs.toArray ws.toArray n1 n2 dd1 dd2 sl1 sl2 (by simpa using hv) (by simpa using hw) (by rw [List.size_toArray, List.size_toArray]; exact hsz)) ⟨ho, ho2, ?_⟩)
      rw [e]
      exact h2 hv hw
theorem ip_catT {X : Cx} : PIp X .Add (rCatX X.K) := by
  intro pins s σ H x y v u Q I rx ry h
  obtain ⟨a, b, xs, ys, rfl, rfl, ha, hb, hz, q0, q1, q2⟩ := h
  cases rx
  cases ry
  obtain ⟨its, r1, p1, _⟩ := I.tuple ha
  obtain ⟨its2, r2, p2, _⟩ := I.tuple hb
  exact icat_tup p1 p2 (fun z => ⟨.ref b, H, I, rfl, q0 (r1.nil_iff.mp z)⟩) (fun z z2 => ⟨.ref a, H, I, rfl, q1 (fun w => z (r1.nil_iff.mpr w)) (r2.nil_iff.mp z2)⟩) (fun z z2 => ep_newT I (r1.append r2) (by rw [List.length_append]; exact hz) (q2 (fun w => z (r1.nil_iff.mpr w)) fun w => z2 (r2.nil_iff.mpr w))) (by rw [← r1.length, ← r2.length]; exact hz)
theorem ds_augT (hx : G.tab.lookup x = some i) (hl : G.loc.elem x = true) (h0 : S[i]? = some (.dat (.tuple ds1))) (he : DE G e S (.tuple ds2) S1) (hz : ds1.length + ds2.length ≤ sizeLine) (hio : noIo S1 i = true := by rfl) : DS G (.AugAssign (.Name x p1) .Add e pos) S (.nx (S1.set i (.dat (.tuple (ds1 ++ ds2))))) := fun X ok => by
  obtain ⟨h1, _⟩ := ok.var hx
  obtain ⟨l1, l2⟩ := ok.st (elem_mem hl)
  refine PS_weak (ps_aug ok.nd h1 l1 (he X ok) ip_catT l2) fun D σ H ⟨B, hh, k⟩ => ?_
  obtain ⟨v, ev, rv⟩ := hh.dat h0
  refine ⟨v, ev, B, hh, fun w H1 hh1 r1 q1 => ?_⟩
  have rv := rv.car r1.car
  have done : ∀ z H2, (∀ a o, H1 a = some o → H2 a = some o) → Rep X.K (Av S1 σ B) H2 z (.tuple (ds1 ++ ds2)) → D.nx (σ.set i (some z)) H2 := fun z H2 kp rz =>
    k _ H2 ((hh1.same kp).setD rz) ((r1.trans (Rel.same kp)).trans (Rel.set (noIo_of hio) rfl rfl fun z => by cases z))
  cases rv with
  | @tup a xs _ la rx =>
    cases q1 with
    | @tup b ys _ lb ry =>
      refine ⟨a, b, xs, ys, rfl, rfl, la.sq, lb.sq, by rw [rx.length, ry.length]; exact hz, fun e => ?_, fun _ e => ?_, fun _ _ q ob hq hb => ?_⟩
      · subst e
        cases rx
        exact done _ H1 (fun _ _ e => e) (.tup lb ry)
      · subst e
        cases ry
        rw [List.append_nil] at done
        exact done _ H1 (fun _ _ e => e) (.tup la rx)
      · exact done _ _ (upd_keep hq) (.tup (.inl ⟨(hh1.freeAv hq), xt_new hb⟩) ((rx.append ry).same (upd_keep hq)))
/-! ### t += u, texts -/
theorem ip_catS {X : Cx} : PIp X .Add (fun x y H Q => ∃ a b : Str, x = .str a ∧ y = .str b ∧ Str.length a + Str.length b ≤ sizeLine ∧ Q (.str (a ++ b)) H) := by
  intro pins s σ H x y v u Q I rx ry ⟨a, b, e1, e2, hz, q⟩
  subst e1 e2
  obtain ⟨t1, rfl⟩ := rx
  obtain ⟨t2, rfl⟩ := ry
  exact PyProof.Rows.iadd_str (fun t' tk => ⟨.str (a ++ b), H, I.tok _, ⟨t', rfl⟩, q⟩) hz
theorem ds_augS {p q : Str} (hx : G.tab.lookup x = some i) (hl : G.loc.elem x = true) (h0 : S[i]? = some (.dat (.str p))) (he : DE G e S (.str q) S1) (hz : Str.length p + Str.length q ≤ sizeLine) (hio : noIo S1 i = true := by rfl) : DS G (.AugAssign (.Name x p1) .Add e pos) S (.nx (S1.set i (.dat (.str (p ++ q))))) := fun X ok => by
  obtain ⟨h1, _⟩ := ok.var hx
  obtain ⟨l1, l2⟩ := ok.st (elem_mem hl)
  refine PS_weak (ps_aug ok.nd h1 l1 (he X ok) ip_catS l2) fun D σ H ⟨B, hh, k⟩ => ?_
  obtain ⟨v, ev, rv⟩ := hh.dat h0
  exact ⟨v, ev, B, hh, fun w H1 hh1 r1 q1 => ⟨p, q, rep_str rv, rep_str q1, hz, k _ H1 (hh1.setD (.str _)) (r1.trans (Rel.set (noIo_of hio) rfl rfl fun z => by cases z))⟩⟩
/-! ### list(range), tuple(range) -/
def chkRg (lo hi : Int) : Option Unit := if -1000000000000000000 ≤ lo ∧ lo < 1000000000000000000 ∧ -1000000000000000000 ≤ hi ∧ hi < 1000000000000000000 ∧ hi - lo < 16777216 then some () else none
theorem chkRg_ok {lo hi : Int} {u : Unit} (h : chkRg lo hi = some u) : RgOk lo hi := by
  have := of_ite h
  unfold RgOk
  omega
theorem rgV_reps {lo hi : Int} : Reps K A H (rgV lo hi) ((rng lo hi).map Enc.enc) := by
  unfold rgV rng
  induction List.range (hi - lo).toNat with
  | nil => exact .nil
  | cons k l ih => exact .cons (.int _) ih
theorem prg1 {X : Cx} (ok : G.Ok X) (hx : G.blt.elem ("range" : Str) = true) (h : DE G e S (.int n) S1) (hs : ∀ env, starEach [e] env = (false, eval e env) :: starEach [] env := by intro _; rfl) : PRg X (.Call (.Name "range" p2) [e] [] p3) (tRg1 (tE X.K S (.int n) S1)) :=
  prg_1 (ok.gl (elem_mem hx)).1 (ok.gl (elem_mem hx)).2.1 (h X ok) (hs _)
theorem df_listRg1 (hx : G.blt.elem ("list" : Str) = true) (hx2 : G.blt.elem ("range" : Str) = true) (h : DE G e S (.int n) S1) (hz : chkRg 0 n = some u) (hs : ∀ env, starEach [e] env = (false, eval e env) :: starEach [] env := by intro _; rfl)
    (hs2 : ∀ env, starEach [Expr.Call (.Name "range" p2) [e] [] p3] env = (false, eval (Expr.Call (.Name "range" p2) [e] [] p3) env) :: starEach [] env := by intro _; rfl) : DF G (.Call (.Name "list" p1) [.Call (.Name "range" p2) [e] [] p3] [] pos) S (.lst ((rng 0 n).map Enc.enc)) S1 := fun X ok => by
  refine PE_weak (pe_listRg ok.calm (ok.gl (elem_mem hx)).1 (ok.gl (elem_mem hx)).2.1 (prg1 ok hx2 h hs) (hs2 _)) fun σ H Q ⟨B, hh, k⟩ => ⟨B, hh, fun v H1 h1 r1 q1 => ⟨n, rep_int q1, chkRg_ok hz, fun q hq => ?_⟩⟩
  exact k q _ (r1.free hq) (h1.free hq) (h1.newB hq trivial) (r1.trans (Rel.same (upd_keep hq))) ⟨_, upd_same, rgV_reps⟩
theorem df_listRg2 (hx : G.blt.elem ("list" : Str) = true) (hx2 : G.blt.elem ("range" : Str) = true) (h : DE G a S (.int m) S1) (h2 : DE G b S1 (.int n) S2) (hz : chkRg m n = some u) (hs : ∀ env, starEach [a, b] env = (false, eval a env) :: starEach [b] env := by intro _; rfl) (hs1 : ∀ env, starEach [b] env = (false, eval b env) :: starEach [] env := by intro _; rfl)
    (hs2 : ∀ env, starEach [Expr.Call (.Name "range" p2) [a, b] [] p3] env = (false, eval (Expr.Call (.Name "range" p2) [a, b] [] p3) env) :: starEach [] env := by intro _; rfl) (hp3 : ∀ env, (backTo p3 (starEach [b] env)).any (·.1) = false := by intro _; rfl) : DF G (.Call (.Name "list" p1) [.Call (.Name "range" p2) [a, b] [] p3] [] pos) S (.lst ((rng m n).map Enc.enc)) S2 := fun X ok => by
  refine PE_weak (pe_listRg ok.calm (ok.gl (elem_mem hx)).1 (ok.gl (elem_mem hx)).2.1 (prg_2 (ok.gl (elem_mem hx2)).1 (ok.gl (elem_mem hx2)).2.1 (h X ok) (h2 X ok) (hs _) (hs1 _) (hp3 _)) (hs2 _)) fun σ H Q ⟨B, hh, k⟩ => ⟨B, hh, fun v H1 h1 r1 q1 => ⟨B, h1, fun w H2 h2 r2 q2 => ⟨m, n, rep_int q1, rep_int q2, chkRg_ok hz, fun q hq => ?_⟩⟩⟩
  have rr := r1.trans r2
  exact k q _ (rr.free hq) (h2.free hq) (h2.newB hq trivial) (rr.trans (Rel.same (upd_keep hq))) ⟨_, upd_same, rgV_reps⟩
/-- tuple(range(..)) -/
def tTupRgX (te : L2.St → Hp → (Int → Int → Hp → Prop) → Prop) : TE := fun σ H Q => te σ H fun a b H1 => RgOk a b ∧ NewT H1 (rgV a b) Q
open PyProof.Rows in
theorem pe_tupRgX {X : Cx} {e : Expr} {te : L2.St → Hp → (Int → Int → Hp → Prop) → Prop} {p pos : Pos} (hc : X.calm = true) (hg : Gl X "tuple") (hm : X.mg "tuple" = none) (he : PRg X e te) (na : starEach [e] X.env = (false, eval e X.env) :: starEach [] X.env := by rfl) : PE X (.Call (.Name "tuple" p) [e] [] pos) (tTupRgX te) := ⟨fun pins s σ H Q I h => by
  refine Call_ (ld_blt I hg hm boot_tuple (PyProof.Rows.callWith_type1 (args_cons (thn (he pins s σ H _ I h) fun x s1 ⟨r, a, b, t, u, v, H1, ex, hr, J, ok, q⟩ => args_nil ?_) na) na))
  subst ex
  obtain ⟨k1, k2, k3, k4, k5⟩ := ok
  refine call_tuple_range (n := (b - a).toNat) (J.ok.hd hc) hr (small_one k1 k2 k3 k4) (rangeSize_nat a b) k5 fun h' tk acc hk hi => ?_
  have J2 : Inv X pins σ H1 { s1 with heap := h', toks := tk } := J.kept hk
  have := ep_newT J2 (vals_rg hi) (by rw [rgV_length, sizeLine_eq]; omega) q
  rw [Array.toArray_toList] at this
  exact this⟩
theorem de_tupRg1 (hx : G.blt.elem ("tuple" : Str) = true) (hx2 : G.blt.elem ("range" : Str) = true) (h : DE G e S (.int n) S1) (hz : chkRg 0 n = some u) (hs : ∀ env, starEach [e] env = (false, eval e env) :: starEach [] env := by intro _; rfl)
    (hs2 : ∀ env, starEach [Expr.Call (.Name "range" p2) [e] [] p3] env = (false, eval (Expr.Call (.Name "range" p2) [e] [] p3) env) :: starEach [] env := by intro _; rfl) : DE G (.Call (.Name "tuple" p1) [.Call (.Name "range" p2) [e] [] p3] [] pos) S (en (rng 0 n)) S1 := fun X ok => by
  refine PE_weak (pe_tupRgX ok.calm (ok.gl (elem_mem hx)).1 (ok.gl (elem_mem hx)).2.1 (prg1 ok hx2 h hs) (hs2 _)) fun σ H Q ⟨B, hh, k⟩ => ⟨B, hh, fun v H1 h1 r1 q1 => ⟨n, rep_int q1, chkRg_ok hz, fun q ob hq hb => ?_⟩⟩
  exact k _ _ (h1.same (upd_keep hq)) (r1.trans (Rel.same (upd_keep hq))) (.tup (.inl ⟨h1.freeAv hq, xt_new hb⟩) rgV_reps)
/-! ### while, with an exit -/
theorem whileM_nobk {cond : τ → Option Bool} {step : τ → Option (Out ρ τ)} : ∀ (n : Nat) (t t' : τ), whileM cond step n t ≠ some (.bk t')
  | 0, _, _, h => by cases h
  | n + 1, t, t', h => by
    unfold whileM at h
    cases h1 : cond t with
    | none => rw [h1] at h; cases h
    | some b =>
      rw [h1] at h
      cases b with
      | false => cases h
      | true =>
        cases h2 : step t with
        | none => simp only [h2] at h; cases h
        | some o1 =>
          simp only [h2] at h
          cases o1 with
          | nx u' => exact whileM_nobk n u' t' h
          | bk u' => cases h
          | ret r => cases h
theorem dss_while {fuel : Nat} {t0 : τ} {cond : τ → Option Bool} {step : τ → Option (Out ρ τ)} {out : Out ρ τ} (slots : τ → List Sl) (rt : ρ → Rt) (rs : ρ → List Sl) (h0 : Wk S (slots t0)) (hc : ∀ t b, cond t = some b → DT G c (slots t) b (slots t))
    (hb : ∀ t out, step t = some out → DSs G body (slots t) (rzo slots rt rs out)) (hl : whileM cond step fuel t0 = some out)
    (hn : ∀ t, out = .nx t → DSs G sts (slots t) R) (hr : ∀ r, out = .ret r → R = .ret (rt r) (rs r)) : DSs G (.While c body [] pos :: sts) S R := by
  have q := ds_while (pos := pos) (rt := rt) (rs := rs) h0 hc hb hl
  cases out with
  | nx t => exact dss_cons q (hn t rfl)
  | bk t => exact absurd hl (whileM_nobk _ _ _)
  | ret r =>
    rw [hr r rfl]
    exact dss_end q
/-! ### lists compared -/
theorem dt_cBB {op : CmpOp} {k1 : Bool} (h : ∀ X, G.Ok X → OpR X (compareOp op) (rDat X.K (.list ds1) (.list ds2) k1)) (ha : DB G a S (.lst ds1) S1) (hb : DB G b S1 (.lst ds2) S2) (hm : behindInMarks op b = false := by rfl) : DT G (.Compare a [op] [b] pos) S k1 S2 := fun X ok =>
  PT_weak (pt_cmpR (h X ok) (ha X ok) (hb X ok) hm) fun σ H Q ⟨B, hh, k⟩ => ⟨B, hh, fun v H1 h1 r1 q1 => ⟨B, h1, fun u H2 h2 r2 q2 => ⟨_, rd_rep (ObRd.car (o := .lst ds1) r2.car r2.cdO q1), rd_rep q2, k1, rfl, k H2 h2 (r1.trans r2)⟩⟩⟩
theorem de_cBB {op : CmpOp} {k1 : Bool} (h : ∀ X, G.Ok X → OpR X (compareOp op) (rDat X.K (.list ds1) (.list ds2) k1)) (ha : DB G a S (.lst ds1) S1) (hb : DB G b S1 (.lst ds2) S2) (hm : behindInMarks op b = false := by rfl) : DE G (.Compare a [op] [b] pos) S (.bool k1) S2 := fun X ok =>
  PE_weak (pe_cmpR (h X ok) (ha X ok) (hb X ok) hm) fun σ H Q ⟨B, hh, k⟩ => ⟨B, hh, fun v H1 h1 r1 q1 => ⟨B, h1, fun u H2 h2 r2 q2 => ⟨_, rd_rep (ObRd.car (o := .lst ds1) r2.car r2.cdO q1), rd_rep q2, k _ H2 h2 (r1.trans r2) (.bl _)⟩⟩⟩
theorem or_eqD (p1 : d1.plain = true) (p2 : d2.plain = true) (hd : d1.depth ≤ 100 ∨ d2.depth ≤ 100) : ∀ X, G.Ok X → OpR X (compareOp .Eq) (rDat X.K d1 d2 (PyData.eqv d1 d2)) := fun X ok pins s σ H x y v u Q I rx ry ⟨A, h1, h2, q⟩ => by
  obtain ⟨as, r1⟩ := h1.reads I rx
  obtain ⟨bs, r2⟩ := h2.reads I ry
  refine SeqAt.eq_plain r1 r2 p1 p2 ?_ ⟨.bl _, H, I, rfl, q⟩
  have := ok.un
  omega
theorem or_neD (p1 : d1.plain = true) (p2 : d2.plain = true) (hd : d1.depth ≤ 100 ∨ d2.depth ≤ 100) : ∀ X, G.Ok X → OpR X (compareOp .NotEq) (rDat X.K d1 d2 (!PyData.eqv d1 d2)) := fun X ok pins s σ H x y v u Q I rx ry ⟨A, h1, h2, q⟩ => by
  obtain ⟨as, r1⟩ := h1.reads I rx
  obtain ⟨bs, r2⟩ := h2.reads I ry
  refine SeqAt.ne_plain r1 r2 p1 p2 ?_ ⟨.bl _, H, I, rfl, q⟩
  have := ok.un
  omega
end
section
variable {α : Type} [DecidableEq α] [Enc α] {G : Cxt} {S S1 S2 : List Sl} {a b e : Expr} {pos : Pos} {xs ys : List α} {u : Unit} {i : Nat} {x : Str} {p1 : Pos}
theorem eqv_lists (xs ys : List α) : PyData.eqv (.list (xs.map Enc.enc)) (.list (ys.map Enc.enc)) = decide (xs = ys) := by unfold PyData.eqv; exact eqvAll_map xs ys
theorem plain_list (xs : List α) : (PyData.list (xs.map Enc.enc)).plain = true := plainAll_map xs
theorem depth_list (xs : List α) (h : Enc.dp α ≤ 99) : (PyData.list (xs.map Enc.enc)).depth ≤ 100 := Nat.succ_le_succ (Nat.le_trans (depthAll_map xs) h)
theorem or_eqLT (xs ys : List α) (h : Enc.dp α ≤ 99 := by decide) : ∀ X, G.Ok X → OpR X (compareOp .Eq) (rDat X.K (.list (xs.map Enc.enc)) (.list (ys.map Enc.enc)) (decide (xs = ys))) := by
  rw [← eqv_lists]; exact or_eqD (plain_list xs) (plain_list ys) (.inl (depth_list xs h))
theorem or_neLT (xs ys : List α) (h : Enc.dp α ≤ 99 := by decide) : ∀ X, G.Ok X → OpR X (compareOp .NotEq) (rDat X.K (.list (xs.map Enc.enc)) (.list (ys.map Enc.enc)) (!decide (xs = ys))) := by
  rw [← eqv_lists]; exact or_neD (plain_list xs) (plain_list ys) (.inl (depth_list xs h))
theorem ds_augTT (hx : G.tab.lookup x = some i) (hl : G.loc.elem x = true) (h0 : S[i]? = some (.dat (en xs))) (he : DE G e S (en ys) S1) (hz : chkN (xs.length + ys.length) = some u) (hio : noIo S1 i = true := by rfl) : DS G (.AugAssign (.Name x p1) .Add e pos) S (.nx (S1.set i (.dat (en (xs ++ ys))))) := by
  have := ds_augT (ds1 := xs.map Enc.enc) (ds2 := ys.map Enc.enc) (p1 := p1) (pos := pos) hx hl h0 he (by rw [List.length_map, List.length_map]; exact chkN_le hz) hio
  rw [← List.map_append] at this
  exact this
/-- [..] * n -/
theorem df_repT {n : Int} (ha : DF G a S (.lst (xs.map Enc.enc)) S1) (hb : DE G b S1 (.int n) S2) (hn : chkRg 0 n = some u) (hz : chkN (xs.length * n.toNat) = some u) : DF G (.BinOp a .Mult b pos) S (.lst ((List.replicate n.toNat xs).flatten.map Enc.enc)) S2 := by
  have q := of_ite hn
  have := df_repF (pos := pos) ha hb (by constructor <;> omega) (by rw [List.length_map]; exact chkN_le hz)
  rw [show (List.replicate n.toNat (xs.map Enc.enc)).flatten = (List.replicate n.toNat xs).flatten.map (Enc.enc (α := α)) by rw [List.map_flatten, List.map_replicate]] at this
  exact this
end

/-! ### a loop over an object of one's own that may leave the def -/
section
variable {α τ ρ : Type} {G : Cxt} {S S1 : List Sl} {tg iter c : Expr} {body sts : List Stmt} {pos : Pos} {R : Rz} {i : Nat} {s : Sl} {o : Ob}
theorem ds_nobk {slots : τ → List Sl} {rt : ρ → Rt} {rs : ρ → List Sl} {out : Out ρ τ} (hs : S[i]? = some s) (m : Mine s o) {st : Stmt} (q : DS G st (S.set i (.bor o)) (rzo slots rt rs out)) (hbor : ∀ t, (slots t)[i]? = some (.bor o)) (hb2 : ∀ r, (rs r)[i]? = some (.bor o)) (hrd : ∀ r, ∃ d, rt r = .dat d)
    (hbk : ∀ t, out ≠ .bk t) (hn : ∀ t, out = .nx t → DSs G sts ((slots t).set i s) R) (hr : ∀ r, out = .ret r → ∃ S2, R = .ret (rt r) S2 ∧ Wk ((rs r).set i s) S2) : DSs G (st :: sts) S R := by
  have q2 := ds_lend hs m q (by cases out with
    | nx t => exact hbor t
    | bk t => exact hbor t
    | ret r => exact hb2 r) (fun r S' e => by
      cases out with
      | nx t => cases e
      | bk t => cases e
      | ret r' => cases e; exact hrd r')
  cases out with
  | nx t => exact dss_cons q2 (hn t rfl)
  | bk t => exact absurd rfl (hbk t)
  | ret r =>
    obtain ⟨S2, e, w⟩ := hr r rfl
    rw [e]
    exact dss_end (ds_le q2 (.ret w))
theorem loopM_nobk {step : τ → α → Option (Out ρ τ)} : ∀ (ys : List α) (u t : τ), loopM step u ys ≠ some (.bk t)
  | [], u, t, h => by cases h
  | y :: ys, u, t, h => by
    unfold loopM at h
    cases h1 : step u y with
    | none => rw [h1] at h; cases h
    | some o1 =>
      rw [h1] at h
      cases o1 with
      | nx u' => exact loopM_nobk ys u' t h
      | bk u' => cases h
      | ret r => cases h
theorem dss_forL {ix : List Nat} {f : α → PyData} {xs : List α} {t0 : τ} {step : τ → α → Option (Out ρ τ)} {out : Out ρ τ} (slots : τ → List Sl) (tgt : τ → α → List Sl) (rt : ρ → Rt) (rs : ρ → List Sl) (hs : S[i]? = some s) (m : Mine s o) (hi : DI G tg iter (S.set i (.bor o)) (xs.map f) S1) (h0 : Wk S1 (slots t0))
    (hg : ∀ t x, x ∈ xs → DG G tg ix (slots t) (f x) (tgt t x)) (hb : ∀ t x out, x ∈ xs → step t x = some out → DSs G body (tgt t x) (rzo slots rt rs out)) (hl : loopM step t0 xs = some out)
    (hbor : ∀ t, (slots t)[i]? = some (.bor o)) (hb2 : ∀ r, (rs r)[i]? = some (.bor o)) (hrd : ∀ r, ∃ d, rt r = .dat d)
    (hn : ∀ t, out = .nx t → DSs G sts ((slots t).set i s) R) (hr : ∀ r, out = .ret r → ∃ S2, R = .ret (rt r) S2 ∧ Wk ((rs r).set i s) S2)
    (hf : ∀ env x, foldedSetIterable iter env x = Pure.pure x := by intro _ _; rfl) : DSs G (.For tg iter body [] pos :: sts) S R := by
  have q := ds_for (pos := pos) (rt := rt) (rs := rs) hi h0 hg hb hl hf
  have hbk := loopM_nobk xs t0 (step := step)
  cases out with
  | nx t => exact ds_nobk (out := .nx t) hs m q hbor hb2 hrd (fun _ z => by cases z) hn hr
  | bk t => exact absurd hl (hbk t)
  | ret r => exact ds_nobk (out := .ret r) hs m q hbor hb2 hrd (fun _ z => by cases z) hn hr
end
end Pw
/-! ### index and count, sum of a tuple -/
namespace Pw
open PySem PySem.Spec L2
section
variable {G : Cxt} {d : PyData} {ds : List PyData} {K : PySem.W.Frag}
/-- x.name(y), x a list or a tuple that reads as ds, y as d -/
def rOfD (K : PySem.W.Frag) (lst : Bool) (d : PyData) (ds : List PyData) (r : V) : V → List V → Hp → VK → Prop := fun x xs H Q => ∃ (A A2 : AP) (a : Addr) (y : V) (zs : List V), x = .ref a ∧ xs = [y] ∧ (if lst = true then SqL K H a zs else SqT K H a zs) ∧ Reps K A H zs ds ∧ Rep K A2 H y d ∧ Q r H
theorem reads_at {h : Heap} {vs : List Value} {as : List Addr} (hr : PySem.ReadsAll h vs ds as) (hp : PyData.plainAll ds = true) (m : Nat) (hm : m < vs.length) : ∃ (hd : m < ds.length), SeqAt.readOf h vs[m] = ds[m] := by
  have e := SeqAt.readsAll_map_plain ds vs as hp hr
  have hd : m < ds.length := by rw [← e, List.length_map]; exact hm
  refine ⟨hd, ?_⟩
  have : (vs.map (SeqAt.readOf h))[m]? = ds[m]? := by rw [e]
  rw [List.getElem?_map, List.getElem?_eq_getElem hm, List.getElem?_eq_getElem hd] at this
  exact Option.some.inj this
section
variable {X : Cx}
theorem mt_idx (ok : G.Ok X) (hp : PyData.plainAll ds = true) (hd : d.plain = true) (hz : d.depth ≤ 100) {j : Nat} {z : PyData} (hj : ds[j]? = some z) (he : PyData.eqv z d = true) (hno : ∀ (m : Nat) (w : PyData), m < j → ds[m]? = some w → PyData.eqv w d = false) : MtR X "list.index" (rOfD X.K true d ds (.int (j : Nat))) := by
  rintro pins s σ H x xs v us Q I rx rxs ⟨A, A2, a, y, zs, rfl, rfl, hs, hr, hy, q⟩
  rw [if_pos rfl] at hs
  cases rx
  obtain ⟨u, rfl, ru⟩ := rxs.one
  obtain ⟨bs, r1⟩ := hy.reads I ru
  obtain ⟨its, rv, ⟨⟨cls, dd, data, sl⟩, n, ho, hc, hdn, hdt⟩, hlen⟩ := I.list hs
  simp only at hc hdt
  subst hc hdt
  obtain ⟨as, h4⟩ : ∃ as, PySem.ReadsAll s.heap its ds as := Dp.readsAll I _ _ _ hr.dp rv
  have hl : its.length = ds.length := by rw [← rv.length, hr.length]
  have hjd := (List.getElem?_eq_some_iff.mp hj).1
  have hsl := sizeLine_eq
  have hzl := hr.length
  have hu : X.A.units + 1 + min (PyData.depthAll ds) d.depth < cLine := by have := ok.un; omega
  have at_ : ∀ (m : Nat) (hm : m < its.toArray.size), ∃ h : m < ds.length, SeqAt.readOf s.heap its.toArray[m] = ds[m] := fun m hm => by
    have := reads_at h4 hp m (by simpa using hm)
    simpa using this
  refine call_meets PySem.F.slot_list_index ⟨_, ho, rfl⟩ PySem.F.entry_list_index (PySem.F.args_list_index_2 _ _)
    (SeqAt.list_indexAt a its.toArray n dd sl u (fun u => PyData.eqv (SeqAt.readOf s.heap u) d) j (by simp; omega) (by omega) ?_ ?_) ⟨ho, SeqAt.items_plain (vs := its.toArray) (show PySem.ReadsAll s.heap its.toArray.toList ds as from h4) r1 hp hd hu, ?_⟩
  · obtain ⟨h, e⟩ := at_ j (by simp; omega)
    rw [e, (List.getElem?_eq_some_iff.mp hj).2]; exact he
  · intro m hm hmj
    obtain ⟨h, e⟩ := at_ m hm
    rw [e]; exact hno m _ hmj (List.getElem?_eq_getElem h)
  · exact ⟨.int (j : Nat), H, I.tok _, ⟨_, rfl⟩, q⟩
theorem mt_idxT (ok : G.Ok X) (hp : PyData.plainAll ds = true) (hd : d.plain = true) (hz : d.depth ≤ 100) {j : Nat} {z : PyData} (hj : ds[j]? = some z) (he : PyData.eqv z d = true) (hno : ∀ (m : Nat) (w : PyData), m < j → ds[m]? = some w → PyData.eqv w d = false) : MtR X "tuple.index" (rOfD X.K false d ds (.int (j : Nat))) := by
  rintro pins s σ H x xs v us Q I rx rxs ⟨A, A2, a, y, zs, rfl, rfl, hs, hr, hy, q⟩
  rw [if_neg Bool.false_ne_true] at hs
  cases rx
  obtain ⟨u, rfl, ru⟩ := rxs.one
  obtain ⟨bs, r1⟩ := hy.reads I ru
  obtain ⟨its, rv, ⟨⟨cls, dd, data, sl⟩, ho, hc, n, hdt⟩, hlen⟩ := I.tuple hs
  simp only at hc hdt
  subst hc hdt
  obtain ⟨as, h4⟩ : ∃ as, PySem.ReadsAll s.heap its ds as := Dp.readsAll I _ _ _ hr.dp rv
  have hl : its.length = ds.length := by rw [← rv.length, hr.length]
  have hjd := (List.getElem?_eq_some_iff.mp hj).1
  have hzl := hr.length
  have hu : X.A.units + 1 + min (PyData.depthAll ds) d.depth < cLine := by have := ok.un; omega
  have at_ : ∀ (m : Nat) (hm : m < its.toArray.size), ∃ h : m < ds.length, SeqAt.readOf s.heap its.toArray[m] = ds[m] := fun m hm => by
    have := reads_at h4 hp m (by simpa using hm)
    simpa using this
  refine call_meets PySem.F.slot_tuple_index ⟨_, ho, rfl⟩ PySem.F.entry_tuple_index (PySem.F.args_tuple_index_2 _ _)
    (TI.tuple_indexAt a its.toArray n dd sl u (fun u => PyData.eqv (SeqAt.readOf s.heap u) d) j (by simp; omega) ?_ ?_) ⟨ho, SeqAt.items_plain (vs := its.toArray) (show PySem.ReadsAll s.heap its.toArray.toList ds as from h4) r1 hp hd hu, ?_⟩
  · obtain ⟨h, e⟩ := at_ j (by simp; omega)
    rw [e, (List.getElem?_eq_some_iff.mp hj).2]; exact he
  · intro m hm hmj
    obtain ⟨h, e⟩ := at_ m hm
    rw [e]; exact hno m _ hmj (List.getElem?_eq_getElem h)
  · exact ⟨.int (j : Nat), H, I.tok _, ⟨_, rfl⟩, q⟩
theorem count_plain {h : Heap} {vs : List Value} {as : List Addr} (hr : PySem.ReadsAll h vs ds as) (hp : PyData.plainAll ds = true) : vs.countP (fun u => PyData.eqv (SeqAt.readOf h u) d) = ds.countP fun w => PyData.eqv w d := by
  have e := SeqAt.readsAll_map_plain ds vs as hp hr
  rw [← e, List.countP_map]; rfl
theorem mt_cnt (ok : G.Ok X) (hp : PyData.plainAll ds = true) (hd : d.plain = true) (hz : d.depth ≤ 100) : MtR X "list.count" (rOfD X.K true d ds (.int (ds.countP fun w => PyData.eqv w d : Nat))) := by
  rintro pins s σ H x xs v us Q I rx rxs ⟨A, A2, a, y, zs, rfl, rfl, hs, hr, hy, q⟩
  rw [if_pos rfl] at hs
  cases rx
  obtain ⟨u, rfl, ru⟩ := rxs.one
  obtain ⟨bs, r1⟩ := hy.reads I ru
  obtain ⟨its, rv, ⟨⟨cls, dd, data, sl⟩, n, ho, hc, hdn, hdt⟩, hlen⟩ := I.list hs
  simp only at hc hdt
  subst hc hdt
  obtain ⟨as, h4⟩ : ∃ as, PySem.ReadsAll s.heap its ds as := Dp.readsAll I _ _ _ hr.dp rv
  have hu : X.A.units + 1 + min (PyData.depthAll ds) d.depth < cLine := by have := ok.un; omega
  have e := count_plain (d := d) h4 hp
  rw [← e] at q
  exact call_meets PySem.F.slot_list_count ⟨_, ho, rfl⟩ PySem.F.entry_list_count (PySem.F.args_list_count_2 _ _)
    (SeqAt.list_countAt a its.toArray n dd sl u (fun u => PyData.eqv (SeqAt.readOf s.heap u) d)) ⟨ho, SeqAt.items_plain (vs := its.toArray) (show PySem.ReadsAll s.heap its.toArray.toList ds as from h4) r1 hp hd hu, .int _, H, I.tok _, ⟨_, rfl⟩, q⟩
theorem mt_cntT (ok : G.Ok X) (hp : PyData.plainAll ds = true) (hd : d.plain = true) (hz : d.depth ≤ 100) : MtR X "tuple.count" (rOfD X.K false d ds (.int (ds.countP fun w => PyData.eqv w d : Nat))) := by
  rintro pins s σ H x xs v us Q I rx rxs ⟨A, A2, a, y, zs, rfl, rfl, hs, hr, hy, q⟩
  rw [if_neg Bool.false_ne_true] at hs
  cases rx
  obtain ⟨u, rfl, ru⟩ := rxs.one
  obtain ⟨bs, r1⟩ := hy.reads I ru
  obtain ⟨its, rv, ⟨⟨cls, dd, data, sl⟩, ho, hc, n, hdt⟩, hlen⟩ := I.tuple hs
  simp only at hc hdt
  subst hc hdt
  obtain ⟨as, h4⟩ : ∃ as, PySem.ReadsAll s.heap its ds as := Dp.readsAll I _ _ _ hr.dp rv
  have hu : X.A.units + 1 + min (PyData.depthAll ds) d.depth < cLine := by have := ok.un; omega
  have e := count_plain (d := d) h4 hp
  rw [← e] at q
  exact call_meets PySem.F.slot_tuple_count ⟨_, ho, rfl⟩ PySem.F.entry_tuple_count (PySem.F.args_tuple_count_2 _ _)
    (SeqAt.tuple_countAt a its.toArray n dd sl u (fun u => PyData.eqv (SeqAt.readOf s.heap u) d)) ⟨ho, SeqAt.items_plain (vs := its.toArray) (show PySem.ReadsAll s.heap its.toArray.toList ds as from h4) r1 hp hd hu, .int _, H, I.tok _, ⟨_, rfl⟩, q⟩
end
end
/-! as expressions -/
section
variable {α : Type} [DecidableEq α] [Enc α] {G : Cxt} {S S1 S2 : List Sl} {o e : Expr} {xs : List α} {x : α} {apos pos p1 : Pos} {u : Unit} {r : Nat} {i : Nat} {s : Sl} {nm : Str}
/-- the first place -/
def idxE (xs : List α) (x : α) : Option Nat := if x ∈ xs then some (xs.idxOf x) else none
theorem idxE_ok {j : Nat} (h : idxE xs x = some j) : (xs.map Enc.enc)[j]? = some (Enc.enc x) ∧ ∀ (m : Nat) (w : PyData), m < j → (xs.map Enc.enc)[m]? = some w → PyData.eqv w (Enc.enc x) = false := by
  unfold idxE at h
  split at h
  · rename_i hx
    have h := Option.some.inj h
    subst h
    have hl : xs.idxOf x < xs.length := List.idxOf_lt_length_of_mem hx
    refine ⟨by rw [List.getElem?_map, List.getElem?_eq_getElem hl, List.getElem_idxOf hl]; rfl, fun m w hm hw => ?_⟩
    rw [List.getElem?_map] at hw
    cases q : xs[m]? with
    | none => rw [q] at hw; cases hw
    | some y =>
      rw [q] at hw
      cases hw
      rw [Enc.eqv, decide_eq_false_iff_not]
      rintro rfl
      obtain ⟨hm2, e⟩ := List.getElem?_eq_some_iff.mp q
      have := List.not_of_lt_findIdx (xs := xs) (p := (· == y)) (i := m) hm
      simp [e] at this
  · cases h
theorem cnt_enc (xs : List α) (x : α) : (xs.map Enc.enc).countP (fun w => PyData.eqv w (Enc.enc x)) = xs.count x := by
  rw [List.countP_map, List.count]
  refine List.countP_congr fun y _ => ?_
  simp [Enc.eqv, Function.comp]
abbrev fewOk (e : Expr) (pos : Pos) : Prop := ∀ env, ((backTo pos (starEach [e] env)).all (fun x => !x.1) && (backToKw pos (keywordEach [] env)).all (fun x => x.1.isSome) && decide (([e] : List Expr).length + ([] : List Keyword).length + (if ([] : List Keyword).isEmpty then 0 else 1) < 30)) = true
/-- a method of a list that is read -/
theorem de_mtL {id : String} {name : Str} {d : PyData} {ds : List PyData} {z : V} {dz : PyData} (pa : PlainAttrs "list") (slot : Slot "list" name id) (hty : typeOf (.builtin id) = pure (.type "method_descriptor")) (hm : ∀ X, G.Ok X → MtR X id (rOfD X.K true d ds z)) (hz : ∀ K A H, Rep K A H z dz) (ho : DB G o S (.lst ds) S1) (he : DE G e S1 d S2)
    (ha : ∀ env, attributeBase o name env (eval o env) = eval o env) (hf : fewOk e pos) (hl : (apos.endLine == pos.line) = true) (hs : ∀ env, starEach [e] env = (false, eval e env) :: starEach [] env) (hp : ∀ env, (backTo pos (starEach ([] : List Expr) env)).any (·.1) = false) : DE G (.Call (.Attribute o name apos) [e] [] pos) S dz S2 := fun X ok => by
  refine PE_weak (pe_bm pa slot hty (hm X ok) (ho X ok) (pa_cons (he X ok) pa_nil (hs _)) (ha _) (hf _) hl (hs _) (hp _)) fun σ H Q ⟨B, hh, k⟩ => ⟨B, hh, fun a H1 h1 r1 q1 => ?_⟩
  obtain ⟨xs, la, rx⟩ := q1
  refine ⟨.inl ⟨rfl, xs, la.sq⟩, B, h1, fun v H2 h2 r2 q2 => ?_⟩
  obtain ⟨ys, lb, ry⟩ := ObRd.car (o := .lst ds) r2.car r2.cdO (⟨xs, la, rx⟩ : ObRd X.K _ _ _ a (.lst ds))
  exact ⟨_, _, a, v, ys, rfl, rfl, by rw [if_pos rfl]; exact lb.sq, ry, q2, k _ H2 h2 (r1.trans r2) (hz _ _ _)⟩
theorem de_idxL {j : Nat} (ho : DB G o S (.lst (xs.map Enc.enc)) S1) (he : DE G e S1 (en x) S2) (hj : idxE xs x = some j) (hd : Enc.dp α ≤ 99 := by decide) (ha : ∀ env, attributeBase o "index" env (eval o env) = eval o env := by intro _; rfl) (hf : fewOk e pos := by intro _; rfl) (hl : (apos.endLine == pos.line) = true := by rfl) (hs : ∀ env, starEach [e] env = (false, eval e env) :: starEach [] env := by intro _; rfl) (hp : ∀ env, (backTo pos (starEach ([] : List Expr) env)).any (·.1) = false := by intro _; rfl) :
    DE G (.Call (.Attribute o "index" apos) [e] [] pos) S (.int (j : Nat)) S2 :=
  de_mtL PySem.F.plainAttrs_list PySem.F.slot_list_index PySem.F.type_list_index (fun X ok => mt_idx ok (plainAll_map xs) (Enc.plain x) (Nat.le_trans (Enc.depth x) (by omega)) (idxE_ok hj).1 (by rw [Enc.eqv]; simp) (idxE_ok hj).2) (fun _ _ _ => .int _) ho he ha hf hl hs hp
theorem de_cntL (ho : DB G o S (.lst (xs.map Enc.enc)) S1) (he : DE G e S1 (en x) S2) (hd : Enc.dp α ≤ 99 := by decide) (ha : ∀ env, attributeBase o "count" env (eval o env) = eval o env := by intro _; rfl) (hf : fewOk e pos := by intro _; rfl) (hl : (apos.endLine == pos.line) = true := by rfl) (hs : ∀ env, starEach [e] env = (false, eval e env) :: starEach [] env := by intro _; rfl) (hp : ∀ env, (backTo pos (starEach ([] : List Expr) env)).any (·.1) = false := by intro _; rfl) :
    DE G (.Call (.Attribute o "count" apos) [e] [] pos) S (.int (xs.count x : Nat)) S2 := by
  rw [← cnt_enc]
  exact de_mtL PySem.F.plainAttrs_list PySem.F.slot_list_count PySem.F.type_list_count (fun X ok => mt_cnt ok (plainAll_map xs) (Enc.plain x) (Nat.le_trans (Enc.depth x) (by omega))) (fun _ _ _ => .int _) ho he ha hf hl hs hp
end
/-! sum of a tuple -/
section
open PyProof.Rows
theorem sum_pre (ns : List Int) : ∀ j, j ≤ ns.length → preSum (fun i => ns.getD i 0) j = (ns.take j).sum
  | 0, _ => by simp [preSum]
  | j + 1, h => by
    rw [preSum, sum_pre ns j (by omega), List.take_add_one, List.sum_append, List.getElem?_eq_getElem (by omega), List.getD_eq_getElem?_getD, List.getElem?_eq_getElem (by omega)]
    simp
theorem sum_tup {prog : Program} {w : World} {A : Around} {E : Value → Shared → Prop} {s : Shared} {l : Addr} {its : List Value} {ns : List Int} {Q : Value → Shared → Prop} (hh : A.handled = none) (hl : s.heap.IsTuple l its.toArray) (hi : IntsAre its ns)
    (h : ∀ h' tk t', (∀ b o, s.heap.get? b = some o → h'.get? b = some o) → Q (.int ns.sum t') { s with heap := h', toks := tk }) : wpAny (model prog w) A (call (.builtin "sum") [.ref l]) Q E s := by
  have hlt : l < s.heap.objs.size := by obtain ⟨_, e, _⟩ := hl; exact Heap.lt_size e
  refine call_sum_walkG (wpAny_pyIter_tuple hl ⟨s.heap.objs.size, [s.heap.objs.size, l], [s.heap.objs.size], its.toArray.size, _, _, fun i => ns.getD i 0, rfl, Walks.tuple (A := A.in1) hh _ l (Nat.ne_of_lt hlt) its.toArray, ⟨⟨_, Heap.get?_push_size _ rfl, rfl, rfl⟩, hl.push _⟩, fun b hb => ?_, fun i v hv => IntsAre.int_at hi i v (by rw [← Array.getElem?_toList] at hv; exact hv), fun h' tk t' hk => ?_⟩)
  · show b < (s.heap.push _).objs.size
    rw [Heap.size_push]
    rcases List.mem_cons.mp hb with rfl | hb
    · exact Nat.lt_succ_self _
    · rw [List.mem_singleton.mp hb]; exact Nat.lt_succ_of_lt hlt
  · have hn : its.length = ns.length := IntsAre.length hi
    have e : preSum (fun i => ns.getD i 0) its.toArray.size = ns.sum := by
      rw [List.size_toArray, hn]
      rw [sum_pre ns _ (Nat.le_refl _), List.take_length]
    rw [e]
    exact h h' tk t' fun b o e => hk b o (by simp; exact Nat.ne_of_lt (Heap.lt_size e)) (Heap.get?_push_of_some _ e)
theorem cr_sumT {X : Cx} (hc : X.calm = true) {xs : List Int} : CallR X (.builtin "sum") (fun vs H Q => ∃ a, vs = [.ref a] ∧ SqT X.K H a (xs.map V.int) ∧ Q (.int xs.sum) H) := fun pins s σ H vs us Q I r ⟨a, e, hs, q⟩ => by
  subst e
  rw [Vals.ref1 r]
  obtain ⟨its, rv, pl, _⟩ := I.tuple hs
  exact sum_tup (I.ok.hd hc) pl (ints_of_vals rv) fun h' tk t' hk => ⟨.int _, H, I.kept hk, ⟨_, rfl⟩, q⟩
theorem de_sumT {G : Cxt} {S S1 : List Sl} {e : Expr} {pos p1 : Pos} {xs : List Int} (hx : G.blt.elem ("sum" : Str) = true) (h : DE G e S (.tuple (xs.map Enc.enc)) S1) (hs : ∀ env, starEach [e] env = (false, eval e env) :: starEach [] env := by intro _; rfl) (hp : ∀ env, (backTo pos (starEach ([] : List Expr) env)).any (·.1) = false := by intro _; rfl) : DE G (.Call (.Name "sum" p1) [e] [] pos) S (.int xs.sum) S1 := fun X ok => by
  obtain ⟨hg, hm, _, _⟩ := ok.gl (elem_mem hx)
  refine PE_weak (pe_callB (cr_sumT ok.calm (xs := xs)) hg hm bo_sum (dd_one h hs X ok) (by decide) (by decide) (hs _) (hp _)) fun σ H Q ⟨B, hh, k⟩ => ⟨B, hh, fun vs H1 h1 r1 q1 => ?_⟩
  obtain ⟨v, rfl, rv⟩ := reps_one q1
  cases rv with
  | @tup p ys _ la rs =>
    have := reps_intsV rs
    subst this
    exact ⟨p, rfl, la.sq, k _ H1 h1 r1 (.int _)⟩
end
end Pw
namespace Pw
open PySem PySem.Spec L2
section
variable {G : Cxt} {S S1 S2 : List Sl} {a b : Expr} {k : Key} {d : PyData} {pos : Pos} {K : PySem.W.Frag} {B : AP} {σ : L2.St} {H : Hp} {p : Addr} {u : HO}
theorem car_updP : Car (Av S σ (Bp B p)) (Av S σ (Bp B p)) H (upd H p u) :=
  ⟨fun a xs n q => ⟨n, rd_keep (fun o e => by rw [upd_ne fun z => n (.inr (.inr z))]; exact e) q⟩, fun a xs n q => ⟨n, xt_keep (fun o e => by rw [upd_ne fun z => n (.inr (.inr z))]; exact e) q⟩⟩
/-- {k: v} -/
theorem df_disp1 (ha : DE G a S (kD k) S1) (hb : DE G b S1 d S2) : DF G (.Dict [some a] [b] pos) S (.dk [(k, d)]) S2 := fun X ok =>
  PE_weak (pe_disp (pps_cons (ha X ok) (hb X ok) pps_nil) rfl rfl (by simp) (by simp)) fun σ H Q ⟨B, hh, kk⟩ p hp => by
    refine ⟨Bp B p, hh.newB hp trivial, fun x H1 h1 r1 q1 => ⟨Bp B p, h1, fun y H2 h2 r2 q2 => ?_⟩⟩
    have r0 : Rel S σ H S σ (upd H p (.dK [])) := Rel.same (upd_keep hp)
    have rr := r1.trans r2
    have n0 : ¬ OwnA S σ p := hh.free hp
    obtain ⟨n2, e2⟩ := rr.ownKeep (u := .dK []) n0 upd_same
    refine ⟨e2, [(k, y)], by rw [List.map_cons, List.map_nil, rep_key q1], by simp, ?_⟩
    have h3 : Holds X.K (Bp B p) S2 σ (upd H2 p (.dK [(k, y)])) := h2.updB n2 trivial fun j s e hl => (r0.trans rr).lentP hh hp e hl
    exact kk p _ hp n2 h3 ((r0.trans rr).updF hp) ⟨[(k, y)], upd_same, rfl, .one (q2.car car_updP)⟩
/-- what was lent stands apart from two new objects -/
theorem Rel.lentP2 {S0 : List Sl} {σ0 : L2.St} {H0 : Hp} {q : Addr} (r : Rel S0 σ0 H0 S σ H) (h0 : Holds K B S0 σ0 H0) (hp : H0 p = none) (hq : H0 q = none) {j : Nat} {s : Sl} (e : S[j]? = some s) (hl : lent? s = true) :
    SlOk K (fun a => OwnA S σ a ∨ a = p ∨ a = q) (Av S σ fun a => B a ∨ a = p ∨ a = q) H σ[j]? s := by
  obtain ⟨e0, eσ⟩ := r.fix j s e hl
  rw [eσ]
  have no : ∀ a o, ¬ OwnA S0 σ0 a → H0 a = some o → ¬ (OwnA S σ a ∨ a = p ∨ a = q) := fun a o n e z => by
    rcases z with z | z | z
    · exact (r.ownKeep n e).1 z
    · rw [z, hp] at e; cases e
    · rw [z, hq] at e; cases e
  have noA : ∀ a o, ¬ Av S0 σ0 B a → H0 a = some o → ¬ Av S σ (fun a => B a ∨ a = p ∨ a = q) a := fun a o n e z => by
    rcases z with z | z | z | z
    · exact (r.ownKeep (fun w => n (.inl w)) e).1 z
    · exact n (.inr z)
    · rw [z, hp] at e; cases e
    · rw [z, hq] at e; cases e
  refine (h0.sl j s e0).car ⟨fun a xs n w => ?_, fun a xs n w => ?_⟩ (fun a u n e => ⟨no a u n e, (r.ownKeep n e).2⟩) (fun ow => absurd ow ?_)
  · obtain ⟨o, e⟩ := rd_some w
    exact ⟨noA a o n e, (r.cdO a _ (fun z => n (.inl z)) w).2⟩
  · obtain ⟨o, e⟩ := xt_some w
    exact ⟨noA a o n e, xt_keep (fun o e => (r.ownKeep (fun z => n (.inl z)) e).2) w⟩
  · cases s <;> first | exact Bool.false_ne_true | cases hl
theorem ObAt.some {A : AP} {o : Ob} (h : ObAt K A H p o) : ∃ v, H p = some v := by
  cases o with
  | lst ds => obtain ⟨xs, e, _⟩ := h; exact ⟨_, e⟩
  | dk ds => obtain ⟨xs, e, _⟩ := h; exact ⟨_, e⟩
  | dt ds => obtain ⟨xs, e, _⟩ := h; exact ⟨_, e⟩
/-- x, y = two new objects -/
theorem ds_parO {x y : Str} {i j : Nat} {o1 o2 : Ob} {kt k2 : Nat} {px py pt pt2 : Pos} (hi : G.tab.lookup x = some i) (hj : G.tab.lookup y = some j) (hij : i ≠ j) (hkx : isLoc G.sc x = true) (hky : isLoc G.sc y = true) (ha : DF G a S o1 S1) (hb : DF G b S1 o2 S2) (hio : noIo S2 i = true := by rfl) (hjo : noIo (S2.set i (.own o1)) j = true := by rfl)
    (hl : (py.line == px.line) = true := by rfl) (hne : (x == y) = false := by decide) (ns : ([a, b].any fun | .Starred .. => true | _ => false) = false := by rfl) (hf : [a, b].all (foldedForSure 8) = false := by rfl) (hc : [a, b].all (constantsAlone 8) = false := by rfl)
    (hs : ∀ env, starEach [a, b] env = (false, eval a env) :: starEach [b] env := by intro _; rfl) (hs2 : ∀ env, starEach [b] env = (false, eval b env) :: starEach [] env := by intro _; rfl)
    (hsw : ∀ env, swapsWithSole [.Tuple [.Name x px, .Name y py] kt pt] (.Tuple [a, b] k2 pt2) pos.line env = Pure.pure false := by intro _; rfl) :
    DS G (.Assign [.Tuple [.Name x px, .Name y py] kt pt] (.Tuple [a, b] k2 pt2) pos) S (.nx ((S2.set i (.own o1)).set j (.own o2))) := fun X ok => by
  obtain ⟨k1, k2⟩ := ok.kindL hkx
  obtain ⟨k3, k4⟩ := ok.kindL hky
  refine PS_weak (ps_par ok.calm ok.nd (ok.var hi).1 (ok.var hj).1 hij k2 k4 (pa_cons (ha X ok) (pa_cons (hb X ok) pa_nil (hs2 _)) (hs _)) (sw_two k1 k2 k4 hl hne ns hf hc) (hsw _)) fun D σ H ⟨B, hh, k⟩ => ⟨B, hh, fun p H1 hp np h1 r1 q1 => ⟨Bp B p, h1, fun q H2 hq nq h2 r2 q2 => ?_⟩⟩
  refine ⟨.ref p, .ref q, rfl, ?_⟩
  obtain ⟨vp, ep⟩ := q1.some
  have np2 := r2.ownKeep np ep
  have nepq : q ≠ p := fun z => by rw [z, ep] at hq; cases hq
  have rr := r1.trans r2
  -- the first, as it stands now
  have c1 : Car (Av S1 σ (Bp B p)) (Av S2 σ (Bp (Bp B q) p)) H1 H2 := by
    have no : ∀ a o, ¬ Av S1 σ (Bp B p) a → H1 a = some o → ¬ Av S2 σ (Bp (Bp B q) p) a := fun a o n e z => by
      rcases z with z | (z | z) | z
      · exact (r2.ownKeep (fun w => n (.inl w)) e).1 z
      · exact n (.inr (.inl z))
      · rw [z, hq] at e; cases e
      · exact n (.inr (.inr z))
    refine ⟨fun a xs n w => ?_, fun a xs n w => ?_⟩ <;> (obtain ⟨o, e⟩ := (by first | exact rd_some w | exact xt_some w); exact ⟨no a o n e, by first | exact (r2.cdO a _ (fun z => n (.inl z)) w).2 | exact xt_keep (fun o e => (r2.ownKeep (fun z => n (.inl z)) e).2) w⟩)
  have q1' : ObAt X.K (Av S2 σ (Bp (Bp B q) p)) H2 p o1 := q1.car c1 fun u e => (r2.ownKeep np e).2
  have eB : Bp (Bp B p) q = Bp (Bp B q) p := funext fun a => propext ⟨fun z => by
    rcases z with (z | z) | z
    · exact .inl (.inl z)
    · exact .inr z
    · exact .inl (.inr z), fun z => by
    rcases z with (z | z) | z
    · exact .inl (.inl z)
    · exact .inr z
    · exact .inl (.inr z)⟩
  rw [eB] at h2 q2
  have hq0 : H q = none := r1.free hq
  have h3 : Holds X.K (Bp B q) (S2.set i (.own o1)) (σ.set i (some (.ref p))) H2 := Holds.setO (B := Bp B q) h2 q1' np2.1 fun jj s e hl =>
    (rr.lentP2 hh hp hq0 e hl).car (Car.imp fun a z => by
      rcases z with z | (z | z) | z
      · exact .inl z
      · exact .inr (.inl z)
      · exact .inr (.inr (.inr z))
      · exact .inr (.inr (.inl z))) (fun a u n e => ⟨fun z => n (by
      rcases z with z | z
      · exact .inl z
      · exact .inr (.inl z)), e⟩) fun _ _ _ _ e => e
  have ow3 : ∀ a, OwnA (S2.set i (.own o1)) (σ.set i (some (.ref p))) a → OwnA S2 σ a ∨ a = p := fun a z => (ownA_set z).elim (fun w => .inr (by cases w.2; rfl)) .inl
  have c2 : Car (Av S2 σ (Bp (Bp B q) p)) (Av (S2.set i (.own o1)) (σ.set i (some (.ref p))) (Bp B q)) H2 H2 := Car.imp fun a z => by
    rcases z with z | z
    · rcases ow3 a z with w | w
      · exact .inl w
      · exact .inr (.inr w)
    · exact .inr (.inl z)
  have n3 : ¬ OwnA (S2.set i (.own o1)) (σ.set i (some (.ref p))) q := fun z => (ow3 q z).elim nq nepq
  have h4 := Holds.setO (B := B) (i := j) h3 (q2.car c2 fun _ e => e) n3 fun jj s e hl => by
    rcases get_set e with ⟨rfl, e2, _⟩ | ⟨ne, e⟩
    · subst e2; cases hl
    · rw [List.getElem?_set_ne ne]
      exact (rr.lentP2 hh hp hq0 e hl).car (Car.imp fun a z => by
        rcases z with z | z | z
        · rcases ow3 a z with w | w
          · exact .inl w
          · exact .inr (.inr (.inl w))
        · exact .inr (.inl z)
        · exact .inr (.inr (.inr z))) (fun a u n e => ⟨fun z => n (by
        rcases z with z | z
        · rcases ow3 a z with w | w
          · exact .inl w
          · exact .inr (.inl w)
        · exact .inr (.inr z)), e⟩) fun _ _ _ _ e => e
  refine k _ H2 h4 ⟨rr.keep, fun a z => ?_, fun jj o e => ?_, by rw [List.length_set, List.length_set]; exact rr.len, fun jj o e => ?_, fun jj t e ht => ?_, rr.dom⟩
  · rcases ownA_set z with ⟨_, w⟩ | w
    · cases w; exact .inr hq0
    · rcases ow3 a w with w | w
      · exact rr.own a w
      · rw [w]; exact .inr hp
  · obtain ⟨e1, o', e2⟩ := rr.ios jj o e
    have n1 : i ≠ jj := fun z => by subst z; exact noIo_of hio o' e2
    have n2 : j ≠ jj := fun z => by subst z; exact noIo_of hjo o' (by rw [List.getElem?_set_ne n1]; exact e2)
    exact ⟨by rw [List.getElem?_set_ne n2, List.getElem?_set_ne n1], o', by rw [List.getElem?_set_ne n2, List.getElem?_set_ne n1]; exact e2⟩
  · rcases get_set e with ⟨rfl, e2, _⟩ | ⟨ne, e⟩
    · cases e2
    · rcases get_set e with ⟨rfl, e2, _⟩ | ⟨ne2, e⟩
      · cases e2
      · exact rr.iob jj o e
  · rcases get_set e with ⟨rfl, e2, _⟩ | ⟨ne, e⟩
    · subst e2; cases ht
    · rcases get_set e with ⟨rfl, e2, _⟩ | ⟨ne2, e⟩
      · subst e2; cases ht
      · obtain ⟨a1, a2⟩ := rr.fix jj t e ht
        exact ⟨a1, by rw [List.getElem?_set_ne ne, List.getElem?_set_ne ne2]⟩
end
end Pw
namespace Pw
open PySem PySem.Spec L2
section
variable {G : Cxt} {S S1 S2 : List Sl} {a b : Expr} {pos : Pos}
theorem db_eqO {o o1 : Ob} (e : o = o1) (h : DB G a S o S1) : DB G a S o1 S1 := e ▸ h
theorem map_someE {α : Type} [DecidableEq α] [Enc α] [EncN α] {xs : List α} : Ob.lst (xs.map Enc.enc) = .lst ((xs.map some).map (Enc.enc (α := Option α))) := by
  rw [List.map_map]; rfl
theorem df_disp1T {κ ν : Type} [DecidableEq κ] [Enc κ] [KeyE κ] [DecidableEq ν] [Enc ν] {k : κ} {w : ν} (ha : DE G a S (en k) S1) (hb : DE G b S1 (en w) S2) : DF G (.Dict [some a] [b] pos) S (.dk (dE [(k, w)])) S2 :=
  df_disp1 (k := KeyE.key k) (by rw [KeyE.kd]; exact ha) hb
def cntE {α : Type} [DecidableEq α] (xs : List α) (x : α) : Nat := xs.count x
theorem de_cntE {α : Type} [DecidableEq α] [Enc α] {xs : List α} {x : α} {o e : Expr} {apos : Pos} (ho : DB G o S (.lst (xs.map Enc.enc)) S1) (he : DE G e S1 (en x) S2) (hd : Enc.dp α ≤ 99 := by decide) (ha : ∀ env, attributeBase o "count" env (eval o env) = eval o env := by intro _; rfl) (hf : fewOk e pos := by intro _; rfl) (hl : (apos.endLine == pos.line) = true := by rfl) (hs : ∀ env, starEach [e] env = (false, eval e env) :: starEach [] env := by intro _; rfl) (hp : ∀ env, (backTo pos (starEach ([] : List Expr) env)).any (·.1) = false := by intro _; rfl) :
    DE G (.Call (.Attribute o "count" apos) [e] [] pos) S (en (cntE xs x : Int)) S2 := de_cntL ho he hd ha hf hl hs hp
theorem de_idxE {α : Type} [DecidableEq α] [Enc α] {xs : List α} {x : α} {j : Nat} {o e : Expr} {apos : Pos} (ho : DB G o S (.lst (xs.map Enc.enc)) S1) (he : DE G e S1 (en x) S2) (hj : idxE xs x = some j) (hd : Enc.dp α ≤ 99 := by decide) (ha : ∀ env, attributeBase o "index" env (eval o env) = eval o env := by intro _; rfl) (hf : fewOk e pos := by intro _; rfl) (hl : (apos.endLine == pos.line) = true := by rfl) (hs : ∀ env, starEach [e] env = (false, eval e env) :: starEach [] env := by intro _; rfl) (hp : ∀ env, (backTo pos (starEach ([] : List Expr) env)).any (·.1) = false := by intro _; rfl) :
    DE G (.Call (.Attribute o "index" apos) [e] [] pos) S (en (j : Int)) S2 := de_idxL ho he hj hd ha hf hl hs hp
end
end Pw
namespace Pw
open PySem PySem.Spec L2
section
variable {G : Cxt} {S S1 S2 T T' : List Sl} {p1 pos : Pos} {d : PyData} {o : Ob}
/-- f() -/
theorem de_call0 {x : Str} {C : Contract} {k : Option Nat} {n : Nat} (hf : G.fns.lookup x = some (n, C)) (ha : DA G [] S [] S) (c : CArgs S [] T k) (hC : C T (.dat d) T') (b : Behind S k T' S2) (hp : T.all parSl = true := by rfl) (hT : T.length = n := by rfl) (hT' : T'.length = n := by rfl) : DE G (.Call (.Name x p1) [] [] pos) S d S2 := fun X ok => by
  obtain ⟨f, fd, j, ps, hm, hk, hb, F, hr⟩ := ok.fns x n C (lookup_left hf)
  obtain ⟨hg, hd⟩ := ok.glf hf
  refine PE_weak (pe_call0 F hr hg hm hk hb (.nil : Vals [] []) pass0 hd) fun σ H Q ⟨B, hh, kk⟩ => ?_
  unfold tCall tNil
  exact sp_of (vs := []) c hC b hp hT hT' hh .nil fun v H2 hB r2 _ q2 => by
      have h2 := hB B (fun _ z => .inl z) (noB hh)
      exact kk v H2 h2 r2 (q2.2.carP (ctup h2) q2.1)
theorem df_call0 {x : Str} {C : Contract} {k : Option Nat} {n : Nat} (hf : G.fns.lookup x = some (n, C)) (ha : DA G [] S [] S) (c : CArgs S [] T k) (hC : C T (.own o) T') (b : Behind S k T' S2) (hp : T.all parSl = true := by rfl) (hT : T.length = n := by rfl) (hT' : T'.length = n := by rfl) : DF G (.Call (.Name x p1) [] [] pos) S o S2 := fun X ok => by
  obtain ⟨f, fd, j, ps, hm, hk, hb, F, hr⟩ := ok.fns x n C (lookup_left hf)
  obtain ⟨hg, hd⟩ := ok.glf hf
  refine PE_weak (pe_call0 F hr hg hm hk hb (.nil : Vals [] []) pass0 hd) fun σ H Q ⟨B, hh, kk⟩ => ?_
  unfold tCall tNil
  refine sp_of (vs := []) c hC b hp hT hT' hh .nil fun v H2 hB r2 o2 ⟨p, ev, hp1, pu, q2⟩ => ?_
  subst ev
  have h2 := hB (Bp B p) (fun a z => z.imp id fun z => by rw [z]; exact hp1) (fun a z w => by
    rcases z with z | z
    · exact noB hh a z w
    · rw [z]; exact q2.mut)
  exact kk p H2 hp1 (fun z => hh.free hp1 (o2 p z)) h2 r2 (q2.purA pu (ctup h2))
end
end Pw
namespace Pw
open PySem PySem.Spec L2
abbrev memE {α : Type} [DecidableEq α] (x : α) (xs : List α) : Bool := decide (x ∈ xs)
def isLcl (names : List (Str × NameKind)) : Expr → Bool
  | .Name id _ => names.lookup id == some .local
  | _ => false
def allLoc (names : List (Str × NameKind)) (ts : List Expr) : Bool := ts.all (isLcl names)
theorem flen {names : List (Str × NameKind)} {f : Expr → Option Str} (hf : ∀ e, isLcl names e = false → f e = none) : ∀ {ts : List Expr}, allLoc names ts = false → (ts.filterMap f).length < ts.length := by
  intro ts
  induction ts with
  | nil => intro h; cases h
  | cons t ts ih =>
    intro h
    rw [List.filterMap_cons, List.length_cons]
    have l2 := List.length_filterMap_le f ts
    by_cases q : isLcl names t = false
    · rw [hf t q]; exact Nat.lt_succ_of_le l2
    · have ht : allLoc names ts = false := by
        unfold allLoc at h ⊢
        rw [Bool.not_eq_false] at q
        rw [List.all_cons, q, Bool.true_and] at h
        exact h
      have := ih ht
      split
      · omega
      · rw [List.length_cons]; omega
theorem sw_nl {ts vs : List Expr} {kt k2 : Nat} {pt pt2 : Pos} {env : Env} (h : allLoc env.scope.names ts = false) : swappedStores [.Tuple ts kt pt] (.Tuple vs k2 pt2) env = Pure.pure none := by
  unfold swappedStores
  simp only []
  split
  · rfl
  split
  · rfl
  split
  · rfl
  rename_i hn
  exfalso
  apply hn
  rw [Bool.or_eq_true]
  left
  rw [bne_iff_ne]
  refine Nat.ne_of_lt (flen (names := env.scope.names) (fun e he => ?_) h)
  cases e <;> first | rfl | skip
  simp only [isLcl] at he
  refine if_neg ?_
  show ¬ (_ && _) = true
  rw [show (env.kindOf _ == some NameKind.local) = false from he, Bool.false_and]
  exact Bool.false_ne_true
end Pw
namespace Pw
open PySem PySem.Spec L2
/-! ### quotients by a number of either sign -/
def CDivZ (_ j : Int) : Prop := j ≠ 0 ∧ j.natAbs.log2 < 9000
theorem op_fdivZ {X : Cx} : OpR X (binaryOp .FloorDiv) (rI CDivZ fun i j => .int (Int.fdiv i j)) := opI fun i j _ _ _ _ _ hc q =>
  PyProof.Rows.floordiv_int hc.1 q (.inl (PyProof.noPylong_of_log2 hc.2))
def chkDZ (j : Int) : Option Unit := if j ≠ 0 ∧ j.natAbs.log2 < 9000 then some () else none
section
variable {G : Cxt} {S S1 S2 : List Sl} {a b : Expr} {pos : Pos} {i j : Int} {u : Unit}
theorem de_fdivZ (ha : DE G a S (.int i) S1) (hb : DE G b S1 (.int j) S2) (h : chkDZ j = some u) : DE G (.BinOp a .FloorDiv b pos) S (.int (Int.fdiv i j)) S2 := de_op (fun _ _ => op_fdivZ) ha hb fun _ => sca_I (C := CDivZ) (show CDivZ i j from of_ite (p := j ≠ 0 ∧ j.natAbs.log2 < 9000) h)
end
end Pw
/-! ### list comprehensions with two fors -/
namespace Pw
open PySem PySem.Spec L2
section
variable {α β γ ι : Type} {G : Cxt} {S S' S1 S2 : List Sl} {iter tg iter1 tg1 c e elt : Expr} {ifs ifs1 : List Expr} {pos p1 : Pos} {K : PySem.W.Frag} {B B' : AP} {σ σ' : L2.St} {H H' : Hp} {vs vs1 : List Nat} {o : Ob}
def flatO (f : α → Option (List β)) : List α → Option (List β)
  | [] => some []
  | x :: xs => (f x).bind fun l => (flatO f xs).bind fun r => some (l ++ r)
theorem noOwn_wipe2 (h : noOwn S vs = true) : noOwn (wipeS S vs1) vs = true := List.all_eq_true.mpr fun i hi => by
  by_cases z : i ∈ vs1
  · cases e : (wipeS S vs1)[i]? with
    | none => rfl
    | some s => rw [wipeS_in e z]; rfl
  · rw [wipeS_out z]
    exact List.all_eq_true.mp h i hi
theorem noOwn_sub (h : noOwn S vs = true) (hv : ∀ i ∈ vs1, i ∈ vs) : noOwn S vs1 = true := List.all_eq_true.mpr fun i hi => List.all_eq_true.mp h i (hv i hi)
theorem wipe_sub (hv : ∀ i ∈ vs1, i ∈ vs) : wipe (wipe σ vs1) vs = wipe σ vs := wipe_eq (wipe_length σ vs1) fun i hi => wipe_out' fun z => hi (hv i z)
theorem wipeS_sub (hv : ∀ i ∈ vs1, i ∈ vs) : wipeS (wipeS S vs1) vs = wipeS S vs := wipeS_eq (wipeS_len vs1) fun i hi => wipeS_out fun z => hi (hv i z)
/-- what is out of sight behind a step -/
theorem Rel.wipeR (r : Rel S σ H S' σ' H') (h : noOwn S' vs = true) : Rel S σ H (wipeS S' vs) (L2.wipe σ' vs) H' := by
  have ioV : ∀ (i : Nat) (o : Ob), S'[i]? = some (Sl.io o) → i ∉ vs := fun i o e hi => by
    have := noOwn_at h hi e
    cases this
  refine ⟨r.keep, fun a z => r.own a (own_wipe1 z), fun i o e => ?_, by rw [wipeS_len]; exact r.len, fun i o e => ?_, fun i s e hs => ?_, r.dom⟩
  · obtain ⟨e1, o1, e2⟩ := r.ios i o e
    have hi := ioV i o1 e2
    exact ⟨by rw [wipe_out' hi]; exact e1, o1, by rw [wipeS_out hi]; exact e2⟩
  · have hi : i ∉ vs := fun z => by have := wipeS_in e z; cases this
    rw [wipeS_out hi] at e
    exact r.iob i o e
  · have hi : i ∉ vs := fun z => by rw [wipeS_in e z] at hs; cases hs
    rw [wipeS_out hi] at e
    rw [wipe_out' hi]
    exact r.fix i s e hs
/-- what a loop walks that holds though what is kept apart changes -/
def JOk2 (K : PySem.W.Frag) (S : List Sl) (σ : L2.St) (B : AP) (H : Hp) (J : It) (ds : List PyData) : Prop :=
  ∀ H1, (∀ a o, H a = some o → ¬ Av S σ B a → H1 a = some o) → (∀ (i : Nat) d, ds[i]? = some d → J.go i H1 ∧ ∀ x H2, J.yld i H1 x H2 → (∀ a o, H1 a = some o → H2 a = some o) ∧ (Rep K (Av S σ B) H x d ∨ (pur d = true ∧ Rep K (fun _ => False) H2 x d))) ∧ (∀ i : Nat, ds.length ≤ i → J.stop i H1)
def tIt2 (K : PySem.W.Frag) (S : List Sl) (ds : List PyData) (S' : List Sl) : TI := fun σ H R => ∃ B, Holds K B S σ H ∧ ∀ J H', Holds K B S' σ H' → Rel S σ H S' σ H' → JOk2 K S' σ B H' J ds → R J H'
def DI2 (G : Cxt) (tg e : Expr) (S : List Sl) (ds : List PyData) (S' : List Sl) : Prop := ∀ X, G.Ok X → PI X tg e (tIt2 X.K S ds S')
theorem JOk2_of {ds : List PyData} {J : It} (h : ∀ H1, (∀ a o, H a = some o → ¬ Av S σ B a → H1 a = some o) → (∀ (i : Nat) d, ds[i]? = some d → J.go i H1 ∧ ∀ x H2, J.yld i H1 x H2 → H2 = H1 ∧ Rep K (Av S σ B) H x d) ∧ (∀ i : Nat, ds.length ≤ i → J.stop i H1)) : JOk2 K S σ B H J ds := fun H1 k => by
  obtain ⟨h1, h2⟩ := h H1 k
  refine ⟨fun i d e => ?_, h2⟩
  obtain ⟨a, b⟩ := h1 i d e
  refine ⟨a, fun x H2 y => ?_⟩
  obtain ⟨rfl, c⟩ := b x H2 y
  exact ⟨fun _ _ e => e, .inl c⟩
theorem sq_keepA {A : AP} {a : Addr} {xs : List V} (h : TAt K A H a xs) (k : ∀ a o, H a = some o → ¬ A a → H' a = some o) : SqT K H' a xs := by
  rcases h with h | ⟨o, its, n, h1, h2, _, h4, h5⟩
  · exact .inl (rd_keep (fun o e => k a o e h.1) h.2.rd)
  · exact .inr ⟨o, its, n, h1, h2, h4, h5⟩
theorem di2_tup {ds : List PyData} (he : DE G e S (.tuple ds) S1) : DI2 G tg e S ds S1 := fun X ok => by
  refine PI_weak (pi_tup (he X ok)) fun σ H R ⟨B, hh, k⟩ => ⟨B, hh, fun v H1 h1 r1 q => ?_⟩
  cases q with
  | @tup a xs _ la rs =>
    refine ⟨a, rfl, ⟨xs, la.sq⟩, ?_⟩
    refine k _ H1 h1 r1 (JOk2_of fun H2 kk => ⟨fun i d ed => ?_, fun i hi => ⟨xs, sq_keepA la kk, by rw [rs.length]; exact hi⟩⟩)
    obtain ⟨v, ev, rv⟩ := rs.get ed
    exact ⟨⟨xs, v, sq_keepA la kk, ev⟩, fun x H3 ⟨e1, e2⟩ => ⟨e1, by
      have := e2 xs (sq_keepA la kk)
      rw [ev] at this; cases this
      exact rv⟩⟩
theorem PI_ex {ι : Type} {X : Cx} {p : ι → Prop} {g : ι → TI} (h : ∀ i, p i → PI X tg e (g i)) : PI X tg e fun σ H R => ∃ i, p i ∧ g i σ H R := ⟨fun pins s σ H R I ⟨i, pi, q⟩ => (h i pi).run pins s σ H R I q⟩
/-- what a comprehension's parts give, two fors -/
def LcP2 (X : Cx) (elt tg iter : Expr) (ifs : List Expr) (tg1 iter1 : Expr) (ifs1 : List Expr) (scope : Scope) (own : List (Str × Nat)) (vs1 : List Nat) (t : TE) : Prop :=
  ∃ wi g tt wi1 g1 tt1 te, PI X tg iter wi ∧ BlkOk X.N X.env.scope scope own ∧ (∀ i ∈ vs1, i ∈ own.map (·.2)) ∧ (∀ (s : Shared) (H : Hp) (C : Addr) (cl : List (Str × Addr)) (fp : List Addr), PG (X.blk s H scope (compEnvC scope cl C X.env) fp) tg g) ∧
    (∀ (s : Shared) (H : Hp) (C : Addr) (cl : List (Str × Addr)) (fp : List Addr), PTs (X.blk s H scope (compEnvC scope cl C X.env) fp) ifs tt) ∧
    (∀ (s : Shared) (H : Hp) (C : Addr) (cl : List (Str × Addr)) (fp : List Addr), PI (X.blk s H scope (compEnvC scope cl C X.env) fp) tg1 iter1 wi1) ∧
    (∀ (s : Shared) (H : Hp) (C : Addr) (cl : List (Str × Addr)) (fp : List Addr), PG (X.blk s H scope (compEnvC scope cl C X.env) fp) tg1 g1) ∧
    (∀ (s : Shared) (H : Hp) (C : Addr) (cl : List (Str × Addr)) (fp : List Addr), PTs (X.blk s H scope (compEnvC scope cl C X.env) fp) ifs1 tt1) ∧
    (∀ (s : Shared) (H : Hp) (C : Addr) (cl : List (Str × Addr)) (fp : List Addr), PE (X.blk s H scope (compEnvC scope cl C X.env) fp) elt te) ∧ ∀ σ H Q, t σ H Q → tLc2 wi g tt wi1 g1 tt1 te (own.map (·.2)) vs1 σ H Q
/-- one turn of the inner loop, with nothing changed -/
def Turn2 (G : Cxt) (elt : Expr) (ifs : List Expr) (T : List Sl) (h : β → PyData) : Option β → Prop
  | none => DTs G ifs T false T
  | some y => DTs G ifs T true T ∧ DE G elt T (h y) T
/-- one turn of the outer loop -/
def Inner (Gb : Cxt) (elt tg1 iter1 : Expr) (ifs ifs1 : List Expr) (vs1 : List Nat) (T : List Sl) (f1 : γ → PyData) (h : β → PyData) (l : List β) : Prop :=
  (DTs Gb ifs T false T ∧ l = []) ∨ (DTs Gb ifs T true T ∧ ∃ (ix1 : List Nat) (ys : List γ) (step : γ → Option (Option β)) (T2 : γ → List Sl), (∀ i ∈ ix1, i ∈ vs1) ∧ DI2 Gb tg1 iter1 T (ys.map f1) T ∧ compO step ys = some l ∧ (∀ y ∈ ys, DG Gb tg1 ix1 (wipeS T vs1) (f1 y) (T2 y)) ∧
    (∀ y ∈ ys, wipeS (T2 y) vs1 = wipeS T vs1) ∧ ∀ y o, y ∈ ys → step y = some o → Turn2 Gb elt ifs1 (T2 y) h o)
theorem lc2_ok {scope : Scope} {own : List (Str × Nat)} {tab : List (Str × Nat)} {loc : List Str} {ix : List Nat} {f : α → PyData} {f1 : γ → PyData} {h : β → PyData} {xs : List α} {all : List β} {inner : α → Option (List β)} {T1 : α → List Sl}
    (hc : (G.blk scope tab loc).chk = true) (hb : blkC G.N G.sc scope own = true) (hv : ∀ i ∈ vs1, i ∈ own.map (·.2)) (hz : DI G tg iter S (xs.map f) S1) (hn : noOwn S1 (own.map (·.2)) = true)
    (hix : ∀ i ∈ ix, i ∈ own.map (·.2)) (hg : ∀ x, x ∈ xs → DG (G.blk scope tab loc) tg ix (wipeS S1 (own.map (·.2))) (f x) (T1 x)) (hT : ∀ x, x ∈ xs → wipeS (T1 x) (own.map (·.2)) = wipeS S1 (own.map (·.2)) ∧ noOwn (T1 x) (own.map (·.2)) = true)
    (hi : ∀ x l, x ∈ xs → inner x = some l → Inner (G.blk scope tab loc) elt tg1 iter1 ifs ifs1 vs1 (T1 x) f1 h l) (he : flatO inner xs = some all) (hl : all.length ≤ sizeLine) (X : Cx) (ok : G.Ok X) : LcP2 X elt tg iter ifs tg1 iter1 ifs1 scope own vs1 (tF X.K S (.lst (all.map h)) S1) := by
  have hblk : BlkOk X.N X.env.scope scope own := by
    rw [ok.N, ok.sc]
    exact blkOk_by hb
  have okb := fun s H C cl fp => ok.blk hc s H C cl fp
  generalize hvs : own.map (·.2) = vs at hv hn hix hg hT
  refine ⟨tIt X.K S (xs.map f) S1, fun v σ H Q => ∃ i : List Nat × List Sl × PyData × List Sl, DG (G.blk scope tab loc) tg i.1 i.2.1 i.2.2.1 i.2.2.2 ∧ tGt X.K i.1 i.2.1 i.2.2.1 i.2.2.2 v σ H Q, fun σ H Q => ∃ i : List Sl × Bool × List Sl, DTs (G.blk scope tab loc) ifs i.1 i.2.1 i.2.2 ∧ tT X.K i.1 i.2.1 i.2.2 σ H Q,
    fun σ H Q => ∃ i : List Sl × List PyData × List Sl, DI2 (G.blk scope tab loc) tg1 iter1 i.1 i.2.1 i.2.2 ∧ tIt2 X.K i.1 i.2.1 i.2.2 σ H Q, fun v σ H Q => ∃ i : List Nat × List Sl × PyData × List Sl, DG (G.blk scope tab loc) tg1 i.1 i.2.1 i.2.2.1 i.2.2.2 ∧ tGt X.K i.1 i.2.1 i.2.2.1 i.2.2.2 v σ H Q, fun σ H Q => ∃ i : List Sl × Bool × List Sl, DTs (G.blk scope tab loc) ifs1 i.1 i.2.1 i.2.2 ∧ tT X.K i.1 i.2.1 i.2.2 σ H Q,
    fun σ H Q => ∃ i : List Sl × PyData × List Sl, DE (G.blk scope tab loc) elt i.1 i.2.1 i.2.2 ∧ tE X.K i.1 i.2.1 i.2.2 σ H Q, hz X ok, hblk, by rw [hvs]; exact hv,
    fun s H C cl fp => PG_ex (p := fun i : List Nat × List Sl × PyData × List Sl => DG (G.blk scope tab loc) tg i.1 i.2.1 i.2.2.1 i.2.2.2) fun i hp => hp _ (okb s H C cl fp),
    fun s H C cl fp => PTs_ex (p := fun i : List Sl × Bool × List Sl => DTs (G.blk scope tab loc) ifs i.1 i.2.1 i.2.2) fun i hp => hp _ (okb s H C cl fp),
    fun s H C cl fp => PI_ex (p := fun i : List Sl × List PyData × List Sl => DI2 (G.blk scope tab loc) tg1 iter1 i.1 i.2.1 i.2.2) fun i hp => hp _ (okb s H C cl fp),
    fun s H C cl fp => PG_ex (p := fun i : List Nat × List Sl × PyData × List Sl => DG (G.blk scope tab loc) tg1 i.1 i.2.1 i.2.2.1 i.2.2.2) fun i hp => hp _ (okb s H C cl fp),
    fun s H C cl fp => PTs_ex (p := fun i : List Sl × Bool × List Sl => DTs (G.blk scope tab loc) ifs1 i.1 i.2.1 i.2.2) fun i hp => hp _ (okb s H C cl fp),
    fun s H C cl fp => PE_ex (p := fun i : List Sl × PyData × List Sl => DE (G.blk scope tab loc) elt i.1 i.2.1 i.2.2) fun i hp => hp _ (okb s H C cl fp), fun σ H Q ⟨B, hh, k⟩ => ?_⟩
  rw [hvs]
  refine ⟨B, hh, fun J H1 h1 r1 jk D hD => ?_⟩
  have n0 : ¬ OwnA (wipeS S1 vs) (L2.wipe σ vs) D := fun z => h1.free hD (own_wipe1 z)
  -- what holds between the turns
  let In : List β → Hp → Prop := fun zs H => Holds X.K (Bp B D) (wipeS S1 vs) (L2.wipe σ vs) H ∧ Rel (wipeS S1 vs) (L2.wipe σ vs) H1 (wipeS S1 vs) (L2.wipe σ vs) H ∧ ¬ OwnA (wipeS S1 vs) (L2.wipe σ vs) D ∧ ∃ acc, H D = some (.lst acc) ∧ Reps X.K (Av (wipeS S1 vs) (L2.wipe σ vs) (Bp B D)) H acc (zs.map h)
  refine ⟨fun i m H => m = xs.length - i ∧ i ≤ xs.length ∧ ∃ zs rest, flatO inner (xs.drop i) = some rest ∧ zs ++ rest = all ∧ In zs H,
    ⟨_, rfl, Nat.zero_le _, [], all, by rw [List.drop_zero]; exact he, rfl, h1.wipe.newB hD trivial, Rel.same (upd_keep hD), n0, [], upd_same, .nil⟩, ?_⟩
  rintro i m H2 ⟨rfl, hi2, zs, rest, hcm, hzs, hh2, r2, nD, acc, eD, ra⟩
  have keep2 : ∀ a o, H1 a = some o → ¬ OwnA S1 σ a → H2 a = some o := fun a o e n => r2.keep a o e fun z => n ((own_wipe hn).mp z)
  obtain ⟨j1, j2⟩ := jk H2 keep2
  by_cases hlt : i < xs.length
  · have ed : xs.drop i = xs[i] :: xs.drop (i + 1) := List.drop_eq_getElem_cons hlt
    rw [ed] at hcm
    have hx : xs[i] ∈ xs := List.getElem_mem hlt
    obtain ⟨go, yl⟩ := j1 i (f xs[i]) (by rw [List.getElem?_map, List.getElem?_eq_getElem hlt]; rfl)
    obtain ⟨l, hin, hcm⟩ := bnd hcm
    obtain ⟨rest', hc2, hcm⟩ := bnd hcm
    have hcm := Option.some.inj hcm
    refine .inr ⟨go, fun H' => In (zs ++ l) H', fun H' q => ⟨_, by omega, rfl, hlt, zs ++ l, rest', hc2, by rw [List.append_assoc, hcm, hzs], q⟩, fun x H3 hy => ?_⟩
    obtain ⟨ks, rq⟩ := yl x H3 hy
    have hh3 := hh2.same ks
    have r3 := r2.trans (Rel.same (S := wipeS S1 vs) (σ := L2.wipe σ vs) ks)
    have item : Rep X.K (Av (wipeS S1 vs) (L2.wipe σ vs) (Bp B D)) H3 x (f xs[i]) := by
      rcases rq with rq | ⟨pq, rq⟩
      · have cc : ∀ a o, ¬ Av S1 σ B a → H1 a = some o → ¬ Av (wipeS S1 vs) (L2.wipe σ vs) (Bp B D) a := fun a o n e z => by
          rcases z with z | z | z
          · rcases r3.own a z with w | w
            · exact n (.inl ((own_wipe hn).mp w))
            · rw [e] at w; cases w
          · exact n (.inr z)
          · rw [z, hD] at e; cases e
        refine rq.car ⟨fun a xs n q => ?_, fun a xs n q => ?_⟩ <;> (
          obtain ⟨o, e⟩ := (by first | exact rd_some q | exact xt_some q)
          exact ⟨cc a o n e, by first | exact rd_keep (fun o e => ks a o (keep2 a o e fun z => n (.inl z))) q | exact xt_keep (fun o e => ks a o (keep2 a o e fun z => n (.inl z))) q⟩)
      · exact rq.carP (ctup hh3) pq
    have eD3 : H3 D = some (.lst acc) := ks D _ eD
    obtain ⟨hT1, hT2⟩ := hT xs[i] hx
    refine ⟨(ix, wipeS S1 vs, f xs[i], T1 xs[i]), hg xs[i] hx, Bp B D, hh3, item, fun σ2 H4 hh4 r4 u4 => ?_⟩
    have lσ : σ2.length = (L2.wipe σ vs).length := by rw [← hh4.len, ← hh3.len, r4.len]
    have ew : L2.wipe σ2 vs = L2.wipe σ vs := (wipe_eq lσ fun i hi => u4 i fun z => hi (hix i z)).trans wipe_wipe
    refine ⟨ew, ?_⟩
    -- back to between the turns
    have fin : ∀ {zs' : List β} {S3 : List Sl} {σ3 : L2.St} {H5 : Hp} {acc' : List V}, wipeS S3 vs = wipeS S1 vs → L2.wipe σ3 vs = L2.wipe σ vs → Holds X.K (Bp B D) S3 σ3 H5 → Rel (wipeS S1 vs) (L2.wipe σ vs) H1 S3 σ3 H5 → ¬ OwnA S3 σ3 D → H5 D = some (.lst acc') → Reps X.K (Av S3 σ3 (Bp B D)) H5 acc' (zs'.map h) → In zs' H5 := fun {zs' S3 σ3 H5 acc'} e1 e2 hh5 r5 n5 e5 ra5 => by
      have q1 := hh5.wipe (vs := vs)
      have q2 := r5.wipe (vs := vs) noOwn_wipe
      rw [e1, e2] at q1 q2
      rw [wipeS_wipeS, wipe_wipe] at q2
      refine ⟨q1, q2, fun z => n5 (by rw [← e1, ← e2] at z; exact own_wipe1 z), acc', e5, ra5.car (Car.imp fun a z => z.imp (fun z => by rw [← e1, ← e2] at z; exact own_wipe1 z) id)⟩
    have r34 := r3.trans r4
    have ra4 : Reps X.K (Av (T1 xs[i]) σ2 (Bp B D)) H4 acc (zs.map h) := (ra.same ks).car r4.car
    have n4 := (r4.ownKeep nD eD3)
    rcases hi xs[i] l hx hin with ⟨t1, rfl⟩ | ⟨t1, ix1, ys, step, T2, hix1, hdi, hco, hg1, hT2', htn⟩
    · refine ⟨(T1 xs[i], false, T1 xs[i]), t1, Bp B D, hh4, fun H5 hh5 r5 => tT_ite (fun z => by cases z) fun _ => ?_⟩
      have n5 := r5.ownKeep n4.1 n4.2
      rw [List.append_nil]
      exact fin hT1 ew hh5 (r34.trans r5) n5.1 n5.2 (ra4.car r5.car)
    · refine ⟨(T1 xs[i], true, T1 xs[i]), t1, Bp B D, hh4, fun H5 hh5 r5 => tT_ite (fun _ => ?_) fun z => by cases z⟩
      have n5 := r5.ownKeep n4.1 n4.2
      have r345 := r34.trans r5
      refine ⟨(T1 xs[i], ys.map f1, T1 xs[i]), hdi, Bp B D, hh5, fun J1 H6 hh6 r6 jk1 => ?_⟩
      have n6 := r6.ownKeep n5.1 n5.2
      have r36 := r345.trans r6
      have ra6 : Reps X.K (Av (T1 xs[i]) σ2 (Bp B D)) H6 acc (zs.map h) := (ra4.car r5.car).car r6.car
      have nv1 : noOwn (T1 xs[i]) vs1 = true := noOwn_sub hT2 hv
      -- what holds between the inner turns
      let In1 : List β → Hp → Prop := fun zs1 H => Holds X.K (Bp B D) (wipeS (T1 xs[i]) vs1) (L2.wipe σ2 vs1) H ∧ (∀ a o, H6 a = some o → ¬ Av (T1 xs[i]) σ2 (Bp B D) a → H a = some o) ∧ Rel (wipeS S1 vs) (L2.wipe σ vs) H1 (wipeS (T1 xs[i]) vs1) (L2.wipe σ2 vs1) H ∧ ¬ OwnA (wipeS (T1 xs[i]) vs1) (L2.wipe σ2 vs1) D ∧
        ∃ acc, H D = some (.lst acc) ∧ Reps X.K (Av (wipeS (T1 xs[i]) vs1) (L2.wipe σ2 vs1) (Bp B D)) H acc ((zs ++ zs1).map h)
      refine ⟨fun j m H => m = ys.length - j ∧ j ≤ ys.length ∧ ∃ zs1 rest1, compO step (ys.drop j) = some rest1 ∧ zs1 ++ rest1 = l ∧ In1 zs1 H,
        ⟨_, rfl, Nat.zero_le _, [], l, by rw [List.drop_zero]; exact hco, rfl, hh6.wipe, fun a o e _ => e, r36.wipeR nv1, fun z => n6.1 (own_wipe1 z), acc, n6.2, by rw [List.append_nil]; exact ra6.car (Car.imp fun a z => z.imp own_wipe1 id)⟩, ?_⟩
      rintro j m1 H7 ⟨rfl, hj2, zs1, rest1, hcm1, hzs1, hh7, r7, r17, n7, acc7, e7, ra7⟩
      have keep7 : ∀ a o, H6 a = some o → ¬ Av (T1 xs[i]) σ2 (Bp B D) a → H7 a = some o := r7
      obtain ⟨k1, k2⟩ := jk1 H7 keep7
      by_cases hlt1 : j < ys.length
      · have ed1 : ys.drop j = ys[j] :: ys.drop (j + 1) := List.drop_eq_getElem_cons hlt1
        rw [ed1] at hcm1
        have hy1 : ys[j] ∈ ys := List.getElem_mem hlt1
        obtain ⟨go1, yl1⟩ := k1 j (f1 ys[j]) (by rw [List.getElem?_map, List.getElem?_eq_getElem hlt1]; rfl)
        obtain ⟨oo, hst, hcm1⟩ := bnd hcm1
        obtain ⟨rest2, hc3, hcm1⟩ := bnd hcm1
        have hcm1 := Option.some.inj hcm1
        refine .inr ⟨go1, fun H' => ∃ zs2, zs2 ++ rest2 = l ∧ In1 zs2 H', fun H' ⟨zs2, q1, q2⟩ => ⟨_, by omega, rfl, hlt1, zs2, rest2, hc3, q1, q2⟩, fun x1 H8 hy8 => ?_⟩
        obtain ⟨ks8, rq8⟩ := yl1 x1 H8 hy8
        have hh8 := hh7.same ks8
        have r8 : ∀ a o, H6 a = some o → ¬ Av (T1 xs[i]) σ2 (Bp B D) a → H8 a = some o := fun a o e n => ks8 a o (r7 a o e n)
        have r18 := r17.trans (Rel.same (S := wipeS (T1 xs[i]) vs1) (σ := L2.wipe σ2 vs1) ks8)
        have item8 : Rep X.K (Av (wipeS (T1 xs[i]) vs1) (L2.wipe σ2 vs1) (Bp B D)) H8 x1 (f1 ys[j]) := by
          rcases rq8 with rq | ⟨pq, rq⟩
          · have cc : ∀ a o, ¬ Av (T1 xs[i]) σ2 (Bp B D) a → H6 a = some o → ¬ Av (wipeS (T1 xs[i]) vs1) (L2.wipe σ2 vs1) (Bp B D) a := fun a o n e z => by
              rcases z with z | z
              · exact n (.inl (own_wipe1 z))
              · exact n (.inr z)
            refine rq.car ⟨fun a xs n q => ?_, fun a xs n q => ?_⟩ <;> (
              obtain ⟨o, e⟩ := (by first | exact rd_some q | exact xt_some q)
              exact ⟨cc a o n e, by first | exact rd_keep (fun o e => ks8 a o (keep7 a o e n)) q | exact xt_keep (fun o e => ks8 a o (keep7 a o e n)) q⟩)
          · exact rq.carP (ctup hh8) pq
        have e8 : H8 D = some (.lst acc7) := ks8 D _ e7
        refine ⟨(ix1, wipeS (T1 xs[i]) vs1, f1 ys[j], T2 ys[j]), hg1 ys[j] hy1, Bp B D, hh8, item8, fun σ3 H9 hh9 r9 u9 => ?_⟩
        have lσ3 : σ3.length = (L2.wipe σ2 vs1).length := by rw [← hh9.len, ← hh8.len, r9.len]
        have ew3 : L2.wipe σ3 vs1 = L2.wipe σ2 vs1 := (wipe_eq lσ3 fun i hi => u9 i fun z => hi (hix1 i z)).trans wipe_wipe
        refine ⟨ew3, ?_⟩
        have eT2 := hT2' ys[j] hy1
        have tr := htn ys[j] oo hy1 hst
        have fin1 : ∀ {H5 : Hp}, Holds X.K (Bp B D) (T2 ys[j]) σ3 H5 → Rel (wipeS (T1 xs[i]) vs1) (L2.wipe σ2 vs1) H8 (T2 ys[j]) σ3 H5 → Holds X.K (Bp B D) (wipeS (T1 xs[i]) vs1) (L2.wipe σ2 vs1) H5 ∧ Rel (wipeS (T1 xs[i]) vs1) (L2.wipe σ2 vs1) H8 (wipeS (T1 xs[i]) vs1) (L2.wipe σ2 vs1) H5 ∧
            ¬ OwnA (wipeS (T1 xs[i]) vs1) (L2.wipe σ2 vs1) D ∧ H5 D = some (.lst acc7) ∧ Reps X.K (Av (wipeS (T1 xs[i]) vs1) (L2.wipe σ2 vs1) (Bp B D)) H5 acc7 ((zs ++ zs1).map h) := fun {H5} hh5 r5 => by
          have q1 := hh5.wipe (vs := vs1)
          have q2 := r5.wipe (vs := vs1) noOwn_wipe
          rw [eT2, ew3] at q1 q2
          rw [wipeS_wipeS, wipe_wipe] at q2
          have nS := q2.ownKeep n7 e8
          exact ⟨q1, q2, nS.1, nS.2, (ra7.same ks8).car q2.car⟩
        cases oo with
        | none =>
          refine ⟨(T2 ys[j], false, T2 ys[j]), tr, Bp B D, hh9, fun H10 hh10 r10 => tT_ite (fun z => by cases z) fun _ => ?_⟩
          obtain ⟨f1', f2, f3, f4, f5⟩ := fin1 hh10 (r9.trans r10)
          exact ⟨zs1, by rw [← hzs1, ← hcm1]; rfl, f1', fun a o e n => f2.keep a o (r8 a o e n) fun z => n (.inl (own_wipe1 z)), r18.trans f2, f3, acc7, f4, f5⟩
        | some y =>
          obtain ⟨t1', t2'⟩ := tr
          refine ⟨(T2 ys[j], true, T2 ys[j]), t1', Bp B D, hh9, fun H10 hh10 r10 => tT_ite (fun _ => ?_) fun z => by cases z⟩
          refine ⟨(T2 ys[j], h y, T2 ys[j]), t2', Bp B D, hh10, fun v H11 hh11 r11 q11 => ?_⟩
          obtain ⟨f1', f2, f3, f4, f5⟩ := fin1 hh11 ((r9.trans r10).trans r11)
          have ez : zs1 ++ [y] ++ rest2 = l := by rw [List.append_assoc, ← hzs1, ← hcm1]; rfl
          have la : acc7.length < sizeLine := by
            have e1 := ra7.length
            rw [List.length_map] at e1
            have e2 : ((zs ++ zs1) ++ (y :: rest2 ++ rest')).length = all.length := by
              rw [← hzs, ← hcm, ← ez]; simp
            simp only [List.length_append, List.length_cons] at e1 e2
            omega
          refine ⟨acc7, f4, la, zs1 ++ [y], ez, ?_, ?_, (r18.trans f2).updF hD, f3, acc7 ++ [v], upd_same, ?_⟩
          · exact f1'.updB f3 trivial fun jj s e hl => (r18.trans f2).lentP h1.wipe hD e hl
          · intro a o e n
            have z : a ≠ D := fun z => n (.inr (.inr z))
            rw [upd_ne z]
            exact f2.keep a o (r8 a o e n) fun z => n (.inl (own_wipe1 z))
          · have qv : Rep X.K (Av (wipeS (T1 xs[i]) vs1) (L2.wipe σ2 vs1) (Bp B D)) H11 v (h y) := q11.car (Car.imp fun a z => z.imp (fun z => by
              rw [← eT2, ← ew3] at z
              exact own_wipe1 z) id)
            rw [← List.append_assoc, List.map_append]
            exact (f5.append (.one qv)).car car_updP
      · have e : j = ys.length := by omega
        subst e
        rw [List.drop_length] at hcm1
        have hcm1 := Option.some.inj hcm1
        subst hcm1
        rw [List.append_nil] at hzs1
        subst hzs1
        refine .inl ⟨k2 _ (by rw [List.length_map]; exact Nat.le_refl _), fin (by rw [wipeS_sub hv]; exact hT1) (by rw [wipe_sub hv]; exact ew) hh7 r17 n7 e7 ra7⟩
  · have e : i = xs.length := by omega
    subst e
    rw [List.drop_length] at hcm
    have hcm := Option.some.inj hcm
    subst hcm
    rw [List.append_nil] at hzs
    subst hzs
    obtain ⟨a1, a2, a3⟩ := unwipe h1 (B' := Bp B D) (fun a z => z.imp id fun z => by rw [z]; exact hD) hn (fun _ _ => rfl) rfl hh2 r2
    exact .inl ⟨j2 _ (by rw [List.length_map]; exact Nat.le_refl _), k D H2 (r1.free hD) (fun z => nD (a3 D z)) a1 (r1.trans a2) ⟨acc, eD, ra.car (Car.imp fun a z => z.imp (a3 a) id)⟩⟩
end
end Pw
namespace Pw
open PySem PySem.Spec L2
section
variable {G : Cxt} {S S1 S2 : List Sl} {iter tg iter1 tg1 elt : Expr} {ifs ifs1 : List Expr} {pos p1 : Pos} {o : Ob} {vs1 : List Nat}
theorem df_lc2 {scope : Scope} {own : List (Str × Nat)} (h : ∀ X, G.Ok X → LcP2 X elt tg iter ifs tg1 iter1 ifs1 scope own vs1 (tF X.K S o S1)) (hs : ∀ env x, foldedSetIterable iter env x = Pure.pure x := by intro _ _; rfl) (hs1 : ∀ env x, foldedSetIterable iter1 env x = Pure.pure x := by intro _ _; rfl) : DF G (.ListComp elt [⟨tg, iter, ifs, 0⟩, ⟨tg1, iter1, ifs1, 0⟩] scope pos) S o S1 := fun X ok => by
  obtain ⟨wi, g, tt, wi1, g1, tt1, te, h1, h2, h3, h4, h5, h6, h7, h8, h9, h10⟩ := h X ok
  exact PE_weak (pe_lc2 ok.calm ok.nd h1 h2 h3 h4 h5 h6 h7 h8 h9 (hs _) hs1) h10
theorem ds_setLc2 {x : Str} {i : Nat} {scope : Scope} {own : List (Str × Nat)} (hx : G.tab.lookup x = some i) (hl : G.loc.elem x = true) (hk : isLoc G.sc x = true) (h : ∀ X, G.Ok X → LcP2 X elt tg iter ifs tg1 iter1 ifs1 scope own vs1 (tF X.K S o S1)) (hio : noIo S1 i = true := by rfl)
    (hpl : (p1.line == pos.line) = true := by rfl) (ha : (scope.names.any fun (n, k) => n == x && (k == .local || k == .cell)) = false := by rfl) (hs : ∀ env x, foldedSetIterable iter env x = Pure.pure x := by intro _ _; rfl) (hs1 : ∀ env x, foldedSetIterable iter1 env x = Pure.pure x := by intro _ _; rfl) {spos : Pos} :
    DS G (.Assign [.Name x p1] (.ListComp elt [⟨tg, iter, ifs, 0⟩, ⟨tg1, iter1, ifs1, 0⟩] scope pos) spos) S (.nx (S1.set i (.own o))) := fun X ok => by
  obtain ⟨wi, g, tt, wi1, g1, tt1, te, h1, h2, h3, h4, h5, h6, h7, h8, h9, h10⟩ := h X ok
  have hloc : X.env.scope.names.lookup x = some .local := by
    rw [ok.sc]
    exact (isLoc_of hk).2
  have hkind : X.env.scope.kind = .function := by
    rw [ok.sc]
    exact (isLoc_of hk).1
  refine PS_weak (ps_setLc2 ok.calm ok.nd (ok.var hx).1 hloc (sw_true hkind hloc hpl ha) h1 h2 h3 h4 h5 h6 h7 h8 h9 (hs _) hs1) fun D σ H ⟨B, hh, k⟩ => ?_
  refine h10 σ H _ ⟨B, hh, fun p H1 hp n hh1 r1 q1 => ?_⟩
  obtain ⟨a1, a2⟩ := Holds.setP hh r1 hp n hh1 q1 hio
  exact k _ H1 a1 a2
end
end Pw
namespace Pw
open PySem PySem.Spec L2
section
variable {G : Cxt} {S S1 S2 : List Sl} {a b : Expr} {pos : Pos} {K : PySem.W.Frag} {B : AP} {σ : L2.St} {H H1 H2 : Hp} {p q : Addr} {o1 o2 : Ob} {i j : Nat}
/-- two new objects, both stored -/
theorem par_core (hij : i ≠ j) (hio : noIo S2 i = true) (hjo : noIo (S2.set i (.own o1)) j = true) (hh : Holds K B S σ H) (hp : H p = none) (np : ¬ OwnA S1 σ p) (h1 : Holds K (Bp B p) S1 σ H1) (r1 : Rel S σ H S1 σ H1) (q1 : ObAt K (Av S1 σ (Bp B p)) H1 p o1)
    (hq : H1 q = none) (nq : ¬ OwnA S2 σ q) (h2 : Holds K (Bp (Bp B p) q) S2 σ H2) (r2 : Rel S1 σ H1 S2 σ H2) (q2 : ObAt K (Av S2 σ (Bp (Bp B p) q)) H2 q o2) :
    Holds K B ((S2.set i (.own o1)).set j (.own o2)) ((σ.set i (some (.ref p))).set j (some (.ref q))) H2 ∧ Rel S σ H ((S2.set i (.own o1)).set j (.own o2)) ((σ.set i (some (.ref p))).set j (some (.ref q))) H2 := by
  obtain ⟨vp, ep⟩ := q1.some
  have np2 := r2.ownKeep np ep
  have nepq : q ≠ p := fun z => by rw [z, ep] at hq; cases hq
  have rr := r1.trans r2
  -- the first, as it stands now
  have c1 : Car (Av S1 σ (Bp B p)) (Av S2 σ (Bp (Bp B q) p)) H1 H2 := by
    have no : ∀ a o, ¬ Av S1 σ (Bp B p) a → H1 a = some o → ¬ Av S2 σ (Bp (Bp B q) p) a := fun a o n e z => by
      rcases z with z | (z | z) | z
      · exact (r2.ownKeep (fun w => n (.inl w)) e).1 z
      · exact n (.inr (.inl z))
      · rw [z, hq] at e; cases e
      · exact n (.inr (.inr z))
    refine ⟨fun a xs n w => ?_, fun a xs n w => ?_⟩ <;> (obtain ⟨o, e⟩ := (by first | exact rd_some w | exact xt_some w); exact ⟨no a o n e, by first | exact (r2.cdO a _ (fun z => n (.inl z)) w).2 | exact xt_keep (fun o e => (r2.ownKeep (fun z => n (.inl z)) e).2) w⟩)
  have q1' : ObAt K (Av S2 σ (Bp (Bp B q) p)) H2 p o1 := q1.car c1 fun u e => (r2.ownKeep np e).2
  have eB : Bp (Bp B p) q = Bp (Bp B q) p := funext fun a => propext ⟨fun z => by
    rcases z with (z | z) | z
    · exact .inl (.inl z)
    · exact .inr z
    · exact .inl (.inr z), fun z => by
    rcases z with (z | z) | z
    · exact .inl (.inl z)
    · exact .inr z
    · exact .inl (.inr z)⟩
  rw [eB] at h2 q2
  have hq0 : H q = none := r1.free hq
  have h3 : Holds K (Bp B q) (S2.set i (.own o1)) (σ.set i (some (.ref p))) H2 := Holds.setO (B := Bp B q) h2 q1' np2.1 fun jj s e hl =>
    (rr.lentP2 hh hp hq0 e hl).car (Car.imp fun a z => by
      rcases z with z | (z | z) | z
      · exact .inl z
      · exact .inr (.inl z)
      · exact .inr (.inr (.inr z))
      · exact .inr (.inr (.inl z))) (fun a u n e => ⟨fun z => n (by
      rcases z with z | z
      · exact .inl z
      · exact .inr (.inl z)), e⟩) fun _ _ _ _ e => e
  have ow3 : ∀ a, OwnA (S2.set i (.own o1)) (σ.set i (some (.ref p))) a → OwnA S2 σ a ∨ a = p := fun a z => (ownA_set z).elim (fun w => .inr (by cases w.2; rfl)) .inl
  have c2 : Car (Av S2 σ (Bp (Bp B q) p)) (Av (S2.set i (.own o1)) (σ.set i (some (.ref p))) (Bp B q)) H2 H2 := Car.imp fun a z => by
    rcases z with z | z
    · rcases ow3 a z with w | w
      · exact .inl w
      · exact .inr (.inr w)
    · exact .inr (.inl z)
  have n3 : ¬ OwnA (S2.set i (.own o1)) (σ.set i (some (.ref p))) q := fun z => (ow3 q z).elim nq nepq
  have h4 := Holds.setO (B := B) (i := j) h3 (q2.car c2 fun _ e => e) n3 fun jj s e hl => by
    rcases get_set e with ⟨rfl, e2, _⟩ | ⟨ne, e⟩
    · subst e2; cases hl
    · rw [List.getElem?_set_ne ne]
      exact (rr.lentP2 hh hp hq0 e hl).car (Car.imp fun a z => by
        rcases z with z | z | z
        · rcases ow3 a z with w | w
          · exact .inl w
          · exact .inr (.inr (.inl w))
        · exact .inr (.inl z)
        · exact .inr (.inr (.inr z))) (fun a u n e => ⟨fun z => n (by
        rcases z with z | z
        · rcases ow3 a z with w | w
          · exact .inl w
          · exact .inr (.inl w)
        · exact .inr (.inr z)), e⟩) fun _ _ _ _ e => e
  refine ⟨h4, ⟨rr.keep, fun a z => ?_, fun jj o e => ?_, by rw [List.length_set, List.length_set]; exact rr.len, fun jj o e => ?_, fun jj t e ht => ?_, rr.dom⟩⟩
  · rcases ownA_set z with ⟨_, w⟩ | w
    · cases w; exact .inr hq0
    · rcases ow3 a w with w | w
      · exact rr.own a w
      · rw [w]; exact .inr hp
  · obtain ⟨e1, o', e2⟩ := rr.ios jj o e
    have n1 : i ≠ jj := fun z => by subst z; exact noIo_of hio o' e2
    have n2 : j ≠ jj := fun z => by subst z; exact noIo_of hjo o' (by rw [List.getElem?_set_ne n1]; exact e2)
    exact ⟨by rw [List.getElem?_set_ne n2, List.getElem?_set_ne n1], o', by rw [List.getElem?_set_ne n2, List.getElem?_set_ne n1]; exact e2⟩
  · rcases get_set e with ⟨rfl, e2, _⟩ | ⟨ne, e⟩
    · cases e2
    · rcases get_set e with ⟨rfl, e2, _⟩ | ⟨ne2, e⟩
      · cases e2
      · exact rr.iob jj o e
  · rcases get_set e with ⟨rfl, e2, _⟩ | ⟨ne, e⟩
    · subst e2; cases ht
    · rcases get_set e with ⟨rfl, e2, _⟩ | ⟨ne2, e⟩
      · subst e2; cases ht
      · obtain ⟨a1, a2⟩ := rr.fix jj t e ht
        exact ⟨a1, by rw [List.getElem?_set_ne ne, List.getElem?_set_ne ne2]⟩

/-- x, y = two new objects, where comprehensions see x or y -/
theorem ds_parOC {x y : Str} {kt k2 : Nat} {px py pt pt2 : Pos} (hi : G.tab.lookup x = some i) (hj : G.tab.lookup y = some j) (hij : i ≠ j) (hlx : G.loc.elem x = true) (hly : G.loc.elem y = true) (hw : allLoc G.sc.names [.Name x px, .Name y py] = false) (ha : DF G a S o1 S1) (hb : DF G b S1 o2 S2) (hio : noIo S2 i = true := by rfl) (hjo : noIo (S2.set i (.own o1)) j = true := by rfl)
    (hs : ∀ env, starEach [a, b] env = (false, eval a env) :: starEach [b] env := by intro _; rfl) (hs2 : ∀ env, starEach [b] env = (false, eval b env) :: starEach [] env := by intro _; rfl)
    (hsw : ∀ env, swapsWithSole [.Tuple [.Name x px, .Name y py] kt pt] (.Tuple [a, b] k2 pt2) pos.line env = Pure.pure false := by intro _; rfl) :
    DS G (.Assign [.Tuple [.Name x px, .Name y py] kt pt] (.Tuple [a, b] k2 pt2) pos) S (.nx ((S2.set i (.own o1)).set j (.own o2))) := fun X ok => by
  obtain ⟨v1, _⟩ := ok.var hi
  obtain ⟨l1, l2⟩ := ok.st (elem_mem hlx)
  obtain ⟨v2, _⟩ := ok.var hj
  obtain ⟨m1, m2⟩ := ok.st (elem_mem hly)
  refine PS_weak (ps_asg (pe_tup (pa_cons (ha X ok) (pa_cons (hb X ok) pa_nil (hs2 _)) (hs _))) (pg_tup (n := 2) ok.calm (pgs_cons (pg_name ok.nd v1 l1 l2) (pgs_cons (pg_name ok.nd v2 m1 m2) pgs_nil))) (hsw _) (sw_nl (by rw [ok.sc]; exact hw))) fun D σ H ⟨B, hh, k⟩ => ?_
  refine ⟨B, hh, fun p H1 hp np h1 r1 q1 => ⟨Bp B p, h1, fun q H2 hq nq h2 r2 q2 => ⟨line_of (by simp), fun n hn => ?_⟩⟩⟩
  have kp : ∀ a o, H2 a = some o → upd H2 n (.tup [.ref p, .ref q]) a = some o := upd_keep hn
  refine ⟨n, [.ref p, .ref q], rfl, .inl (.inl upd_same), rfl, .ref p, [.ref q], rfl, .ref q, [], rfl, rfl, ?_⟩
  have q2' : ObAt X.K (Av S2 σ (Bp (Bp B p) q)) (upd H2 n (.tup [.ref p, .ref q])) q o2 := q2.car ⟨fun a xs n z => ⟨n, rd_keep (fun o e => kp a o e) z⟩, fun a xs n z => ⟨n, xt_keep (fun o e => kp a o e) z⟩⟩ fun u e => kp _ _ e
  obtain ⟨a1, a2⟩ := par_core hij hio hjo hh hp np h1 r1 q1 hq nq (h2.same kp) (r2.trans (Rel.same kp)) q2'
  exact k _ _ a1 a2
end
end Pw
/-! ### methods of tuples -/
namespace Pw
open PySem PySem.Spec L2
section
open PyProof.Rows
variable {X : Cx} {o e : Expr} {to : TE} {t : TA} {name : Str} {apos cpos : Pos} {id : String} {r : V → List V → Hp → VK → Prop}
def tBMx (K : PySem.W.Frag) (r : V → List V → Hp → VK → Prop) (to : TE) (t : TA) : TE := fun σ H Q => to σ H fun x H1 => (∃ a xs, x = .ref a ∧ (XT H1 a xs ∨ KT K a xs)) ∧ t σ H1 fun xs H2 => r x xs H2 Q
theorem pe_bmX (pa : PlainAttrs "tuple") (slot : Slot "tuple" name id) (hty : typeOf (.builtin id) = pure (.type "method_descriptor")) (hm : MtR X id r) (ho : PE X o to) (ha : PA X [e] t) (hb : attributeBase o name X.env (eval o X.env) = eval o X.env) (hf : ((backTo cpos (starEach [e] X.env)).all (fun x => !x.1) && (backToKw cpos (keywordEach [] X.env)).all (fun x => x.1.isSome) && decide (([e] : List Expr).length + ([] : List Keyword).length + (if ([] : List Keyword).isEmpty then 0 else 1) < 30)) = true)
    (hl : (apos.endLine == cpos.line) = true) (hs : starEach [e] X.env = (false, eval e X.env) :: starEach [] X.env) (hp : (backTo cpos (starEach ([] : List Expr) X.env)).any (·.1) = false) : PE X (.Call (.Attribute o name apos) [e] [] cpos) (tBMx X.K r to t) := ⟨fun pins s σ H Q I h => by
  refine wpAny_Call_method_late hb hf hl rfl (thn (ho.run pins s σ H _ I h) fun v s1 ⟨x, H1, J, rv, ⟨a, xs, ex, hX⟩, q1⟩ => ?_)
  subst ex
  have hv : v = .ref a := by cases rv; rfl
  subst hv
  obtain ⟨ob, hc, hd, hg⟩ : ∃ ob : Obj, ob.cls = .type "tuple" ∧ ob.dict = none ∧ s1.heap.get? a = some ob := by
    rcases hX with ⟨ob, hc, hd, hH⟩ | ⟨ob, _, _, hk, hc, hd, _⟩
    · exact ⟨ob, hc, hd, (J.hok a _ hH).1⟩
    · exact ⟨ob, hc, hd, J.kIn a ob hk⟩
  refine ⟨"tuple", id, pa, slot, hty, ⟨ob, hg, hc⟩, fun b eb => by cases eb; exact ⟨ob, hg, hd⟩, ?_⟩
  have hA := ha.run cpos pins s1 σ H1 _ J q1
  rw [hs] at hA ⊢
  refine Calls.callWith_builtin (by show (false || (backTo cpos (starEach ([] : List Expr) X.env)).any (·.1)) = false; rw [hp]; rfl) (Calls.evalArgs_plain (thn hA fun us s2 ⟨vs, H2, J2, r2, q2⟩ => hm pins s2 σ H2 (.ref a) vs (.ref a) us Q J2 rfl r2 q2))⟩
end
section
variable {α : Type} [DecidableEq α] [Enc α] {G : Cxt} {S S1 S2 : List Sl} {o e : Expr} {xs : List α} {x : α} {apos pos p1 : Pos}
theorem de_mtT {id : String} {name : Str} {d : PyData} {ds : List PyData} {z : V} {dz : PyData} (pa : PlainAttrs "tuple") (slot : Slot "tuple" name id) (hty : typeOf (.builtin id) = pure (.type "method_descriptor")) (hm : ∀ X, G.Ok X → MtR X id (rOfD X.K false d ds z)) (hz : ∀ K A H, Rep K A H z dz) (ho : DE G o S (.tuple ds) S1) (he : DE G e S1 d S2)
    (ha : ∀ env, attributeBase o name env (eval o env) = eval o env) (hf : fewOk e pos) (hl : (apos.endLine == pos.line) = true) (hs : ∀ env, starEach [e] env = (false, eval e env) :: starEach [] env) (hp : ∀ env, (backTo pos (starEach ([] : List Expr) env)).any (·.1) = false) : DE G (.Call (.Attribute o name apos) [e] [] pos) S dz S2 := fun X ok => by
  refine PE_weak (pe_bmX pa slot hty (hm X ok) (ho X ok) (pa_cons (he X ok) pa_nil (hs _)) (ha _) (hf _) hl (hs _) (hp _)) fun σ H Q ⟨B, hh, k⟩ => ⟨B, hh, fun v H1 h1 r1 q1 => ?_⟩
  cases q1 with
  | @tup a ys _ la rs =>
    refine ⟨⟨a, ys, rfl, la.imp (fun z => z.2) fun z => z⟩, B, h1, fun u H2 h2 r2 q2 => ?_⟩
    cases (Rep.tup la rs).car r2.car with
    | tup lb rb => exact ⟨_, _, a, u, _, rfl, rfl, by rw [if_neg Bool.false_ne_true]; exact lb.sq, rb, q2, k _ H2 h2 (r1.trans r2) (hz _ _ _)⟩
theorem de_idxTT {j : Nat} (ho : DE G o S (en xs) S1) (he : DE G e S1 (en x) S2) (hj : idxE xs x = some j) (hd : Enc.dp α ≤ 99 := by decide) (ha : ∀ env, attributeBase o "index" env (eval o env) = eval o env := by intro _; rfl) (hf : fewOk e pos := by intro _; rfl) (hl : (apos.endLine == pos.line) = true := by rfl) (hs : ∀ env, starEach [e] env = (false, eval e env) :: starEach [] env := by intro _; rfl) (hp : ∀ env, (backTo pos (starEach ([] : List Expr) env)).any (·.1) = false := by intro _; rfl) :
    DE G (.Call (.Attribute o "index" apos) [e] [] pos) S (en (j : Int)) S2 :=
  de_mtT PySem.F.plainAttrs_tuple PySem.F.slot_tuple_index PySem.F.type_tuple_index (fun X ok => mt_idxT ok (plainAll_map xs) (Enc.plain x) (Nat.le_trans (Enc.depth x) (by omega)) (idxE_ok hj).1 (by rw [Enc.eqv]; simp) (idxE_ok hj).2) (fun _ _ _ => .int _) ho he ha hf hl hs hp
theorem de_cntTT (ho : DE G o S (en xs) S1) (he : DE G e S1 (en x) S2) (hd : Enc.dp α ≤ 99 := by decide) (ha : ∀ env, attributeBase o "count" env (eval o env) = eval o env := by intro _; rfl) (hf : fewOk e pos := by intro _; rfl) (hl : (apos.endLine == pos.line) = true := by rfl) (hs : ∀ env, starEach [e] env = (false, eval e env) :: starEach [] env := by intro _; rfl) (hp : ∀ env, (backTo pos (starEach ([] : List Expr) env)).any (·.1) = false := by intro _; rfl) :
    DE G (.Call (.Attribute o "count" apos) [e] [] pos) S (en (cntE xs x : Int)) S2 := by
  show DE G _ S (.int (xs.count x : Nat)) S2
  rw [← cnt_enc]
  exact de_mtT PySem.F.plainAttrs_tuple PySem.F.slot_tuple_count PySem.F.type_tuple_count (fun X ok => mt_cntT ok (plainAll_map xs) (Enc.plain x) (Nat.le_trans (Enc.depth x) (by omega))) (fun _ _ _ => .int _) ho he ha hf hl hs hp
end
end Pw
/-! ### the module's constants -/
namespace Pw
open PySem PySem.Spec L2
theorem sw_fold {ts vs : List Expr} {k1 k2 : Nat} {p1 p2 : Pos} {env : Env} (h : vs.all (foldedForSure 8) = true) : swappedStores [.Tuple ts k1 p1] (.Tuple vs k2 p2) env = pure none := by
  unfold swappedStores
  simp only [h, if_true]
  repeat' (first | rfl | split)
section
variable {G : Cxt} {S : List Sl} {x : Str} {d : PyData} {pos : Pos}
theorem de_cn (hx : G.cns.lookup x = some d) (hg : glC G.sc x = true) (hd : (x == ("__debug__" : Str)) = false := by decide) : DE G (.Name x pos) S d S := fun X ok => by
  obtain ⟨u, v, hm, hr, hp⟩ := ok.cns x d hx
  have gl : Gl X x := by
    show X.env.scope.names.lookup x = _
    rw [ok.sc]
    exact gl_of hg
  exact PE_weak (pe_glob gl hm hr hd) fun σ H Q ⟨B, hh, k⟩ => k u H hh Rel.refl (hp _ _)
theorem cnOk_str {K : PySem.W.Frag} {mg : Str → Option Value} {s : Str} {t : Tok} (h : mg x = some (.str s t)) : CnOk K mg (en s) x := ⟨.str s, _, h, ⟨t, rfl⟩, fun _ _ => .str s⟩
theorem cnOk_II {K : PySem.W.Frag} {mg : Str → Option Value} {i j : Int} {t1 t2 : Tok} {a : Addr} {sl : Array (Option Value)} {n : Nat} (h : mg x = some (.ref a)) (hk : K.lookup a = some ⟨.type "tuple", none, .seq #[.int i t1, .int j t2] n, sl⟩) : CnOk K mg (en (⟨i, j⟩ : T2 Int Int)) x :=
  ⟨.ref a, _, h, rfl, fun _ _ => .tup (xs := [.int i, .int j]) (.inr ⟨_, _, _, hk, rfl, rfl, rfl, (by show 2 ≤ sizeLine; decide), .cons ⟨t1, rfl⟩ (.cons ⟨t2, rfl⟩ .nil)⟩) (.cons (.int i) (.cons (.int j) .nil))⟩
end
end Pw
/-! ### dict(t), t a tuple of pairs -/
namespace Pw
open PySem PySem.Spec L2
section
open PyProof.Rows
variable {X : Cx}
theorem pairs_two {pins : List (Addr × Obj)} {σ : L2.St} {H : Hp} {s : Shared} (I : Inv X pins σ H s) : ∀ {ps : List Addr} {kvs : List (Key × V)}, Paired (fun p kv => SqT X.K H p [kV kv.1, kv.2]) ps kvs →
    ∃ (prs : List (Key × Value)) (us : List (Value × Value)), KV kvs prs ∧ prs.length = ps.length ∧ us.length = ps.length ∧ ∀ (j : Nat) (k v : Value), us[j]? = some (k, v) → ∃ key b, prs[j]? = some (key, v) ∧ ps[j]? = some b ∧ IsTup s.heap b #[k, v] ∧ keyIs key k = true
  | _, _, .nil => ⟨[], [], .nil, rfl, rfl, fun j k v e => by simp at e⟩
  | _, _, .cons (a := p) (b := kv) h t => by
    obtain ⟨prs, us, r, hl, hu, hp⟩ := pairs_two I t
    obtain ⟨its, rv, ht, _⟩ := I.tuple h
    obtain ⟨u, y, ei, ru, ry⟩ := vals2 rv
    subst ei
    refine ⟨(kv.1, y) :: prs, (u, y) :: us, .cons ⟨rfl, ry⟩ r, congrArg (· + 1) hl, congrArg (· + 1) hu, fun j k v e => ?_⟩
    cases j with
    | zero => cases Option.some.inj e; exact ⟨kv.1, p, rfl, rfl, ht, kV_is (P := X.prog) (w := X.w) ru⟩
    | succ j =>
      obtain ⟨key, b, e1, e2, e3⟩ := hp j k v (by simpa using e)
      exact ⟨key, b, by simpa using e1, by simpa using e2, e3⟩
theorem call_dictTX (hcalm : X.calm = true) : CallR X (.type "dict") (fun xs H Q => ∃ (a : Addr) (ps : List Addr) (kvs : List (Key × V)), xs = [.ref a] ∧ (XT H a (ps.map V.ref) ∨ KT X.K a (ps.map V.ref)) ∧ Paired (fun p kv => SqT X.K H p [kV kv.1, kv.2]) ps kvs ∧ ∀ q, H q = none → Q (.ref q) (upd H q (.dK (mergeK [] kvs)))) := by
  intro pins s σ H xs us Q I r ⟨a, ps, kvs, ex, hX, hp, q⟩
  subst ex
  obtain ⟨u, eu, rx⟩ := vals1 r
  subst eu
  cases rx
  have sq : SqT X.K H a (ps.map V.ref) := by
    rcases hX with h | ⟨o, its, n, h1, h2, _, h4, h5⟩
    · exact .inl h.rd
    · exact .inr ⟨o, its, n, h1, h2, h4, h5⟩
  obtain ⟨its, rv, ⟨ob0, hg0, hc0, n0, hdat0⟩, hz⟩ := I.tuple sq
  obtain ⟨ob, hc, hd, hg⟩ : ∃ ob : Obj, ob.cls = .type "tuple" ∧ ob.dict = none ∧ s.heap.get? a = some ob := by
    rcases hX with ⟨ob, hc, hd, hH⟩ | ⟨ob, _, _, hk, hc, hd, _⟩
    · exact ⟨ob, hc, hd, (I.hok a _ hH).1⟩
    · exact ⟨ob, hc, hd, I.kIn a ob hk⟩
  obtain rfl : ob0 = ob := by rw [hg] at hg0; exact (Option.some.inj hg0).symm
  have ei := refs_at rv
  subst ei
  rw [List.length_map] at hz
  obtain ⟨prs, us, rel, hl, hu, hpr⟩ := pairs_two I hp
  have P := PySem.PairArg.tuple (prog := X.prog) (w := X.w) a (ps.map Value.ref).toArray (fun j => ps.getD j 0) us
  refine PySem.call_dict_pairs (knd := mixKind X.prog X.w) (kvs := prs) P (I.ok.hd hcalm) ⟨⟨ob0, n0, hg, hc, hd, hdat0⟩, ⟨by simp [hu], fun j k v e => ?_⟩⟩ ⟨by rw [hl, hu], fun j k v e => ?_⟩ (by rw [hu]; exact hz) fun h' tk hd' k => ?_
  · obtain ⟨key, b, _, e2, e3, _⟩ := hpr j k v e
    refine ⟨by simp [e2, List.getD_eq_getElem?_getD], ?_⟩
    show PairAt s.heap (ps.getD j 0) k v
    rw [List.getD_eq_getElem?_getD, e2]
    exact .inl e3
  · obtain ⟨key, b, e1, _, _, e4⟩ := hpr j k v e
    exact ⟨key, e1, e4⟩
  · have hm : (s.heap.objs.size == sysModules) = false := beq_eq_false_iff_ne.mpr (Nat.ne_of_gt I.big)
    have hlen : (mergeK [] kvs).length ≤ sizeLine := by
      have := length_mergeK kvs []
      rw [List.length_nil, rel.length, hl] at this
      omega
    exact ⟨.ref s.heap.objs.size, upd H s.heap.objs.size (.dK (mergeK [] kvs)), I.laid (t' := tk) (fun b o e => k b o (by simp) e) (Nat.le_refl _) (show ObjOk X.prog X.w _ _ _ (.dK (mergeK [] kvs)) from ⟨hlen, hm, merged [] prs, KV.merge rel .nil, hd'⟩), rfl, q _ (I.hok.fresh (Nat.le_refl _))⟩
end
section
variable {κ ν : Type} [DecidableEq κ] [Enc κ] [KeyE κ] [DecidableEq ν] [Enc ν] {G : Cxt} {S S1 : List Sl} {e : Expr} {pos p1 : Pos}
theorem merge_rep {K : PySem.W.Frag} {A : AP} {H : Hp} : ∀ {ps : List Addr} {ds : List (Key × PyData)}, Reps K A H (ps.map V.ref) (ds.map fun p => .tuple [kD p.1, p.2]) → ∃ kvs : List (Key × V), Paired (fun p kv => SqT K H p [kV kv.1, kv.2]) ps kvs ∧ ∀ acc dd, RepK K A H acc dd → RepK K A H (mergeK acc kvs) (ds.foldl (fun d p => putG d p.1 p.2) dd)
  | [], [], _ => ⟨[], .nil, fun acc dd h => h⟩
  | p :: ps, (k, d) :: ds, r => by
    rw [List.map_cons, List.map_cons] at r
    cases r with
    | cons r1 rs =>
      obtain ⟨kvs, h1, h2⟩ := merge_rep rs
      cases r1 with
      | @tup _ xs _ la rx =>
        cases rx with
        | cons ra rb =>
          cases rb with
          | cons rc rd =>
            cases rd
            have hk : ∀ {v : V}, Rep K A H v (kD k) → v = kV k := fun {v} h => by
              cases k with
              | inl i => cases h; rfl
              | inr x => cases h; rfl
            have := hk ra
            subst this
            exact ⟨(k, _) :: kvs, .cons la.sq h1, fun acc dd h => h2 _ _ (repK_put h rc)⟩
  | [], _ :: _, r => by cases r
  | _ :: _, [], r => by cases r
theorem refs_of {K : PySem.W.Frag} {A : AP} {H : Hp} : ∀ {xs : List V} {ds : List (Key × PyData)}, Reps K A H xs (ds.map fun p => .tuple [kD p.1, p.2]) → ∃ ps : List Addr, xs = ps.map V.ref
  | _, [], r => by cases r; exact ⟨[], rfl⟩
  | _, (k, d) :: ds, r => by
    rw [List.map_cons] at r
    cases r with
    | cons r1 rs =>
      obtain ⟨ps, rfl⟩ := refs_of rs
      cases r1 with
      | @tup a xs _ la rx => exact ⟨a :: ps, rfl⟩
theorem df_dictT (hx : G.blt.elem ("dict" : Str) = true) {xs : List (T2 κ ν)} (h : DE G e S (en xs) S1) (hs : ∀ env, starEach [e] env = (false, eval e env) :: starEach [] env := by intro _; rfl) (hp : ∀ env, (backTo pos (starEach ([] : List Expr) env)).any (·.1) = false := by intro _; rfl) : DF G (.Call (.Name "dict" p1) [e] [] pos) S (.dk (dE (ofP (xs.map fun x => (x.a, x.b))))) S1 := fun X ok => by
  obtain ⟨hg, hm, _, _⟩ := ok.gl (elem_mem hx)
  refine PE_weak (pe_callTy (call_dictTX ok.calm) hg hm (by decide +kernel) (dd_one h hs X ok) (by decide) (by decide) (hs _) (hp _)) fun σ H Q ⟨B, hh, k⟩ => ⟨B, hh, fun vs H1 h1 r1 q1 => ?_⟩
  obtain ⟨v, rfl, rv⟩ := reps_one q1
  have eds : ∀ xs : List (T2 κ ν), (xs.map Enc.enc : List PyData) = (xs.map fun x => (KeyE.key x.a, (Enc.enc x.b : PyData))).map fun p => .tuple [kD p.1, p.2] := fun xs => by
    rw [List.map_map]
    refine List.map_congr_left fun x _ => ?_
    show (.tuple [Enc.enc x.a, Enc.enc x.b] : PyData) = _
    show _ = (.tuple [kD (KeyE.key x.a), Enc.enc x.b] : PyData)
    rw [KeyE.kd]
  have rv : Rep X.K _ H1 v (.tuple (xs.map Enc.enc)) := rv
  rw [eds] at rv
  cases rv with
  | @tup a ys _ la rs =>
    obtain ⟨ps, rfl⟩ := refs_of rs
    obtain ⟨kvs, hP, hM⟩ := merge_rep rs
    refine ⟨a, ps, kvs, rfl, la.imp (fun z => z.2) fun z => z, hP, fun q hq => ?_⟩
    have := hM [] [] repK_nil
    have e2 : (xs.map fun x => (KeyE.key x.a, (Enc.enc x.b : PyData))).foldl (fun d p => putG d p.1 p.2) [] = dE (ofP (xs.map fun x => (x.a, x.b))) := by
      rw [← ofP_dE, List.map_map]; rfl
    rw [e2] at this
    exact k q _ (r1.free hq) (h1.free hq) (h1.newB hq trivial) (r1.trans (Rel.same (upd_keep hq))) ⟨_, upd_same, this.1, this.2.new (upd_keep hq) hq⟩
end
end Pw
/-! ### texts -/
namespace Pw
open PySem PySem.Spec L2
/-- its signs, each a text -/
def sgn (z : Str) : List Str := z.cps.toList.map fun c => ⟨#[c]⟩
/-- one sign -/
def sgnAt (z : Str) (i : Int) : Option Str := (atI z.cps.toList i).map fun c => ⟨#[c]⟩
def revS (z : Str) : Str := ⟨z.cps.toList.reverse.toArray⟩
def joinS (a : Str) (ys : List Str) : Str := Str.join a ys
def chkJ (a : Str) (ys : List Str) : Option Unit := if (ys.map (·.length)).sum + ys.length * a.length < 16777216 then some () else none
def inS (x z : Str) : Bool := !(Builtin.Str.occurrences z x 0 z.length 1).isEmpty
def idxS (z x : Str) : Option Nat := (Builtin.Str.occurrences z x 0 z.length 1).head?
def ltS (x y : Str) : Bool := decide (x.cps.toList < y.cps.toList)
def repS (x : Str) (n : Int) : Str := ⟨(List.replicate n.toNat x.cps.toList).flatten.toArray⟩
def chkR (x : Str) (n : Int) : Option Unit := if n < 16777216 ∧ x.length * n.toNat < 16777216 ∧ -16777216 < n then some () else none
section
variable {G : Cxt} {S S1 S2 : List Sl} {a b o e : Expr} {x y : Str} {i : Int} {ys : List Str} {apos pos p1 : Pos} {u : Unit}
theorem reps_strs {K : PySem.W.Frag} {A : AP} {H : Hp} : ∀ {xs : List V} {ys : List Str}, Reps K A H xs (ys.map Enc.enc) → xs = ys.map V.str
  | _, [], r => by cases r; rfl
  | _, z :: ys, r => by
    rw [List.map_cons] at r
    cases r with
    | cons r t => rw [reps_strs t, show _ = V.str z from rep_str r]; rfl
theorem de_joinL (ho : DE G o S (.str x) S1) (he : DB G e S1 (.lst (ys.map Enc.enc)) S2) (hz : chkJ x ys = some u) (ha : ∀ env, attributeBase o "join" env (eval o env) = eval o env := by intro _; rfl) (hf : fewOk e pos := by intro _; rfl) (hl : (apos.endLine == pos.line) = true := by rfl) (hs : ∀ env, starEach [e] env = (false, eval e env) :: starEach [] env := by intro _; rfl) (hp : ∀ env, (backTo pos (starEach ([] : List Expr) env)).any (·.1) = false := by intro _; rfl) :
    DE G (.Call (.Attribute o "join" apos) [e] [] pos) S (en (joinS x ys)) S2 := fun X ok => by
  refine PE_weak (pe_bm PySem.F.plainAttrs_str PySem.F.slot_str_join PySem.F.type_str_join mt_join (ho X ok) (pa_b (he X ok) (hs _)) (ha _) (hf _) hl (hs _) (hp _)) fun σ H Q ⟨B, hh, k⟩ => ⟨B, hh, fun v H1 h1 r1 q1 => ?_⟩
  have := rep_str q1
  subst this
  refine ⟨rfl, B, h1, fun p H2 h2 r2 ⟨xs, la, rs⟩ => ?_⟩
  have exs := reps_strs rs
  subst exs
  have hzz : (ys.map (·.length)).sum + ys.length * x.length ≤ 16777216 := by
    unfold chkJ at hz
    split at hz
    · omega
    · cases hz
  refine ⟨x, p, ys, rfl, rfl, .inl la.sq, hzz, ?_⟩
  have ej : Txt.join x ys = joinS x ys := StrLaws.glued_eq_join x ys
  rw [ej]
  exact k _ H2 h2 (r1.trans r2) (.str _)
theorem de_sgnAt {z : Str} (ha : DE G a S (.str x) S1) (hb : DE G b S1 (.int i) S2) (h : sgnAt x i = some z) (hz : chkN x.length = some u) (hs : PlainIx b := by intro _ _; rfl) : DE G (.Subscript a b pos) S (en z) S2 := by
  unfold sgnAt at h
  cases q : atI x.cps.toList i with
  | none => rw [q] at h; cases h
  | some c =>
    rw [q] at h
    cases h
    exact de_ixS ha hb q (chkN_le hz) hs
theorem de_cutS {lo hi : Option Expr} {vl vh : Option Int} {S3 : List Sl} {p2 : Pos} (ha : DE G a S (.str x) S1) (h1 : DO G lo S1 vl S2) (h2 : DO G hi S2 vh S3) (hz : chkN x.length = some u) : DE G (.Subscript a (.Slice lo hi none p2) pos) S (en (cutS x vl vh)) S3 := de_slS ha h1 h2 (chkN_le hz)
section
open PyProof.Rows
variable {X : Cx} {te : TE}
def tRevS (te : TE) : TE := fun σ H Q => te σ H fun v H1 => ∃ z : Str, v = .str z ∧ z.length ≤ sizeLine ∧ Q (.str (revS z)) H1
theorem rev_str_eq (z : Str) (t : Tok) : (Txt.sliceBy z none none (-1, t)) = revS z := by
  have h := step_rev_list z t
  generalize Txt.sliceBy z none none (-1, t) = w at h
  obtain ⟨w⟩ := w
  unfold revS
  congr 1
  apply Array.ext'
  rw [show w.toList = _ from h]
  refine List.ext_getElem (by simp [Str.length]) fun i h1 h2 => ?_
  have : i < z.cps.size := by simpa [Str.length] using h1
  simp [Str.length, List.getElem_reverse, Array.getD, show z.cps.size - 1 - i < z.cps.size by omega]
theorem pe_revS {k : Nat} {q1 q2 q3 : Pos} (he : PE X e te) : PE X (.Subscript e (.Slice none none (some (.UnaryOp .USub (.Constant (.int 1) k q1) q2)) q3) pos) (tRevS te) := ⟨fun pins s σ H Q I h => by
  refine Subscript_ (thn (he.run pins s σ H _ I h) fun v s1 ⟨x, H1, I1, r1, z, ex, hz, q⟩ => ?_)
  subst ex
  obtain ⟨tz, rfl⟩ := r1
  have part : PO X (some (.UnaryOp .USub (.Constant (.int 1) k q1) q2)) (tPart (tUn (rU fun i => .int (-i)) (tC (.int 1)))) := po_some (pe_un un_neg pe_int)
  refine wpAny_Slice ?_
  rw [evalPart_none]
  refine wpAny_pure ?_
  refine wpAny_pure ?_
  refine thn (part.run pins s1 σ H1 (fun o H4 => o = some (-1) ∧ H4 = H1) I1 ⟨1, rfl, -1, rfl, rfl, rfl⟩) fun vs s4 ⟨o, H4, I4, ps, eo, e4⟩ => ?_
  subst eo e4
  obtain ⟨l, e1, e2⟩ := IsPart.raw ps
  obtain ⟨tl, rfl⟩ : ∃ tl, l = some (-1, tl) := by
    cases l with
    | none => cases e2
    | some p => obtain ⟨n, tl⟩ := p; exact ⟨tl, by obtain rfl : n = -1 := Option.some.inj e2; rfl⟩
  have I5 : Inv X pins σ H4 { s4 with heap := s4.heap.push { cls := .type "slice", data := .fields #[.none, .none, vs] } } := I4.kept (t' := s4.toks) fun b ob q => Heap.get?_push_of_some _ q
  subst e1
  show wpAny (model X.prog X.w) X.A (subscriptTail e (.Slice none none (some (.UnaryOp .USub (.Constant (.int 1) k q1) q2)) q3) (.str z tz) (.ref s4.heap.objs.size)) (EP X pins σ Q) X.xe _
  refine tail_any (ops := [.str z tz, .ref s4.heap.objs.size]) (typeIs_str _ _ _) (PySem.F.slot_str_getitem.lookup) ?_ (by with_unfolding_all rfl)
  refine wpAny_getItem_str_slice (l := none) (u := none) (st := some (-1, tl)) ⟨_, Heap.get?_push_size _ rfl, rfl, rfl⟩ rfl ?_
  have e3 := rev_str_eq z tl
  have hl : (Txt.sliceBy z none none (-1, tl)).length ≤ sizeLine := Nat.le_trans (Txt.sliceBy_le z none none (-1, tl) (show (-1 : Int) ≠ 0 by decide)) hz
  have fin : (Made.str (Txt.sliceBy z none none (-1, tl))).post (EP X pins σ Q) { s4 with heap := s4.heap.push { cls := .type "slice", data := .fields #[.none, .none, .int (-1) tl] } } := ⟨hl, .str _, H4, I5.tok _, ⟨_, rfl⟩, by rw [e3]; exact q⟩
  have hm : sliceMade z tz none none (some (-1, tl)) = Made.str (Txt.sliceBy z none none (-1, tl)) := rfl
  rw [hm]
  exact fin⟩
end
theorem de_revS {k : Nat} {q1 q2 q3 : Pos} (ha : DE G a S (.str x) S1) (hz : chkN x.length = some u) : DE G (.Subscript a (.Slice none none (some (.UnaryOp .USub (.Constant (.int 1) k q1) q2)) q3) pos) S (en (revS x)) S1 := fun X ok =>
  PE_weak (pe_revS (ha X ok)) fun σ H Q ⟨B, hh, kk⟩ => ⟨B, hh, fun v H1 h1 r1 q => ⟨x, rep_str q, chkN_le hz, kk _ H1 h1 r1 (.str _)⟩⟩
/-! orders, in, index -/
theorem cr_strB {op : CmpOp} {g : Str → Str → Bool} (h : ∀ X, G.Ok X → OpR X (compareOp op) (fun p q H Q => ∃ i j, p = .str i ∧ q = .str j ∧ Q (.bl (g i j)) H)) : CR G op (.str x) (.str y) (g x y) := cr_dat fun X ok pins s σ H v w a b Q I ra rb ⟨A, h1, h2, q⟩ =>
  h X ok pins s σ H v w a b Q I ra rb ⟨x, y, rep_str h1, rep_str h2, q⟩
theorem cr_ltS : CR G .Lt (en x) (en y) (ltS x y) := cr_strB (g := ltS) fun X _ => op_lt_str
theorem cr_leS : CR G .LtE (en x) (en y) (!ltS y x) := cr_strB (g := fun x y => !ltS y x) fun X _ => op_le_str
theorem cr_gtS : CR G .Gt (en x) (en y) (ltS y x) := cr_strB (g := fun x y => ltS y x) fun X _ => op_gt_str
theorem cr_geS : CR G .GtE (en x) (en y) (!ltS x y) := cr_strB (g := fun x y => !ltS x y) fun X _ => op_ge_str
theorem cr_inS : CR G .In (en x) (en y) (inS x y) := cr_strB (g := inS) fun X _ => op_in_str
theorem cr_ninS : CR G .NotIn (en x) (en y) (!inS x y) := cr_strB (g := fun x y => !inS x y) fun X _ => op_notin_str
theorem de_idxS {j : Nat} (ho : DE G o S (.str x) S1) (he : DE G e S1 (.str y) S2) (hj : idxS x y = some j) (ha : ∀ env, attributeBase o "index" env (eval o env) = eval o env := by intro _; rfl) (hf : fewOk e pos := by intro _; rfl) (hl : (apos.endLine == pos.line) = true := by rfl) (hs : ∀ env, starEach [e] env = (false, eval e env) :: starEach [] env := by intro _; rfl) (hp : ∀ env, (backTo pos (starEach ([] : List Expr) env)).any (·.1) = false := by intro _; rfl) :
    DE G (.Call (.Attribute o "index" apos) [e] [] pos) S (en (j : Int)) S2 := fun X ok => by
  refine PE_weak (pe_bm PySem.F.plainAttrs_str PySem.F.slot_str_index PySem.F.type_str_index mt_sindex (ho X ok) (pa_cons (he X ok) pa_nil (hs _)) (ha _) (hf _) hl (hs _) (hp _)) fun σ H Q ⟨B, hh, k⟩ => ⟨B, hh, fun v H1 h1 r1 q1 => ?_⟩
  have := rep_str q1
  subst this
  refine ⟨rfl, B, h1, fun w H2 h2 r2 q2 => ?_⟩
  unfold idxS at hj
  cases q : Builtin.Str.occurrences x y 0 x.length 1 with
  | nil => rw [q] at hj; cases hj
  | cons i rest =>
    rw [q] at hj
    cases hj
    exact ⟨x, y, j, rest, rfl, by rw [rep_str q2], q, k _ H2 h2 (r1.trans r2) (.int _)⟩
end
end Pw
/-! ### gcd, //=, texts said again and again -/
namespace Pw
open PySem PySem.Spec L2
section
variable {G : Cxt} {S S1 S2 : List Sl} {a b e : Expr} {i j : Int} {x : Str} {pos p1 : Pos} {u : Unit}
theorem de_gcd (hx : G.bfs.lookup x = some "math.gcd") (hg : glC G.sc x = true) (ha : DE G a S (.int i) S1) (hb : DE G b S1 (.int j) S2) (hd : (x == ("__debug__" : Str)) = false := by decide) (hs : ∀ env, starEach [a, b] env = (false, eval a env) :: starEach [b] env := by intro _; rfl) (hs2 : ∀ env, starEach [b] env = (false, eval b env) :: starEach [] env := by intro _; rfl) (hp : ∀ env, (backTo pos (starEach [b] env)).any (·.1) = false := by intro _; rfl) : DE G (.Call (.Name x p1) [a, b] [] pos) S (en (Int.gcd i j : Int)) S2 := fun X ok => by
  have gl : Gl X x := by
    show X.env.scope.names.lookup x = _
    rw [ok.sc]
    exact gl_of hg
  refine PE_weak (pe_callBfun cr_gcd gl (ok.bfs x _ hx) (dd_two ha hb hs hs2 X ok) hd (hs _) (hp _)) fun σ H Q ⟨B, hh, k⟩ => ⟨B, hh, fun vs H1 h1 r1 q1 => ?_⟩
  obtain ⟨v, w, rfl, rv, rw_⟩ := reps_two q1
  exact ⟨i, j, by rw [rep_int rv, rep_int rw_], k _ H1 h1 r1 (.int _)⟩
/-! x //= n, n a small number -/
theorem ip_fdiv {X : Cx} : PIp X .FloorDiv (rI CDiv fun i j => .int (i / j)) := fun pins s σ H x y v u Q I rx ry q => iop_fdiv pins s σ H x y v u Q I rx ry q
theorem ds_augF {m n : Int} {i : Nat} (hx : G.tab.lookup x = some i) (hl : G.loc.elem x = true) (h0 : S[i]? = some (.dat (.int m))) (he : DE G e S (.int n) S1) (hc : CDiv m n) (hio : noIo S1 i = true := by rfl) : DS G (.AugAssign (.Name x p1) .FloorDiv e pos) S (.nx (S1.set i (.dat (.int (m / n))))) := fun X ok => by
  obtain ⟨h1, _⟩ := ok.var hx
  obtain ⟨l1, l2⟩ := ok.st (elem_mem hl)
  refine PS_weak (ps_aug ok.nd h1 l1 (he X ok) ip_fdiv l2) fun D σ H ⟨B, hh, k⟩ => ?_
  obtain ⟨v, ev, rv⟩ := hh.dat h0
  refine ⟨v, ev, B, hh, fun w H1 hh1 r1 q1 => ⟨m, n, rep_int rv, rep_int q1, hc, ?_⟩⟩
  exact k _ H1 (hh1.setD (.int (m / n))) (r1.trans (Rel.set (noIo_of hio) rfl rfl fun z => by cases z))
/-! x * n -/
theorem fold_rep (xs : Array Nat) : ∀ n : Nat, ∀ acc : Array Nat, (List.replicate n xs).foldl (· ++ ·) acc = ⟨acc.toList ++ (List.replicate n xs.toList).flatten⟩
  | 0, acc => by simp
  | n + 1, acc => by rw [List.replicate_succ, List.foldl_cons, fold_rep xs n, List.replicate_succ, List.flatten_cons]; simp
theorem op_mulS {X : Cx} : OpR X (binaryOp .Mult) (fun p q H Q => ∃ (z : Str) (n : Int), p = .str z ∧ q = .int n ∧ -16777216 < n ∧ n < 16777216 ∧ z.length * n.toNat < 16777216 ∧ Q (.str (repS z n)) H) := by
  intro pins s σ H p q v w Q I rp rq ⟨z, n, e1, e2, n0, n1, hz, h⟩
  subst e1 e2
  obtain ⟨t, rfl⟩ := rp
  obtain ⟨t2, rfl⟩ := rq
  have hsz := sizeLine_eq
  refine P.mul_str (by rw [decide_eq_false (by omega), decide_eq_false (by omega)]; rfl) (fun h1 _ h3 => ?_) (fun h1 _ => ?_) ?_
  · have h4 : (z.length : Int) ≤ (2 ^ 63 - 1) / n := by
      rw [Int.le_ediv_iff_mul_le (by omega)]
      have : ((z.length * n.toNat : Nat) : Int) = (z.length : Int) * n := by rw [Int.natCast_mul, Int.toNat_of_nonneg (by omega)]
      omega
    omega
  · unfold Builtin.Str.tooLong; rw [decide_eq_false_iff_not]; omega
  · by_cases c1 : n < 1
    · rw [if_pos c1]
      have : repS z n = Str.empty := by unfold repS; rw [show n.toNat = 0 by omega]; rfl
      rw [this] at h
      exact ⟨by decide, .str _, H, I.tok _, ⟨_, rfl⟩, h⟩
    · rw [if_neg c1]
      by_cases c2 : (n == 1 || z.length == 0) = true
      · rw [if_pos c2]
        have : repS z n = z := by
          obtain ⟨c⟩ := z
          unfold repS
          congr 1
          rw [Bool.or_eq_true] at c2
          rcases c2 with q | q
          · have : n = 1 := by simpa using q
            subst this
            simp
          · have : c = #[] := by
              have q : (c.size == 0) = true := q
              have : c.size = 0 := by simpa using q
              exact Array.eq_empty_of_size_eq_zero this
            subst this
            simp
        rw [this] at h
        exact ⟨.str z, H, I, ⟨t, rfl⟩, h⟩
      · rw [if_neg c2]
        have : (⟨(List.replicate n.toNat z.cps).foldl (· ++ ·) #[]⟩ : Str) = repS z n := by rw [fold_rep]; rfl
        rw [this]
        refine ⟨?_, .str _, H, I.tok _, ⟨_, rfl⟩, h⟩
        show ((List.replicate n.toNat z.cps.toList).flatten.toArray).size ≤ sizeLine
        have hl : ∀ m : Nat, ((List.replicate m z.cps.toList).flatten).length = z.length * m := fun m => by
          induction m with
          | zero => rfl
          | succ m ih =>
            rw [List.replicate_succ, List.flatten_cons, List.length_append, ih, Nat.mul_succ]
            have : z.cps.toList.length = z.length := by simp [Str.length]
            omega
        rw [List.size_toArray, hl]
        omega
theorem de_mulS (ha : DE G a S (.str x) S1) (hb : DE G b S1 (.int i) S2) (hc : chkR x i = some u) : DE G (.BinOp a .Mult b pos) S (en (repS x i)) S2 := fun X ok =>
  PE_weak (pe_op op_mulS (ha X ok) (hb X ok)) fun σ H Q ⟨B, hh, k⟩ => ⟨B, hh, fun v H1 h1 r1 q1 => ⟨B, h1, fun w H2 h2 r2 q2 => by
    unfold chkR at hc
    split at hc
    · rename_i q
      exact ⟨x, i, rep_str q1, rep_int q2, q.2.2, q.1, q.2.1, k _ H2 h2 (r1.trans r2) (.str _)⟩
    · cases hc⟩⟩
end
end Pw
namespace Pw
open PySem PySem.Spec L2
theorem sgn_enc {x : Str} : (x.cps.toList.map fun c => PyData.str ⟨#[c]⟩) = (sgn x).map Enc.enc := by
  unfold sgn; rw [List.map_map]; rfl
theorem sgn_len {x : Str} {u : Unit} (h : chkN x.length = some u) : ((sgn x).map Enc.enc : List PyData).length ≤ sizeLine := by
  have := chkN_le h
  unfold sgn
  rw [List.length_map, List.length_map]
  simpa [Str.length] using this
end Pw
/-! ### xs * n, xs a list of one's own -/
namespace Pw
open PySem PySem.Spec L2
section
variable {α : Type} [DecidableEq α] [Enc α] {G : Cxt} {S : List Sl} {b : Expr} {x : Str} {i : Nat} {s : Sl} {n : Int} {xs : List α} {pos p1 : Pos} {u u2 : Unit}
theorem df_repV (hx : G.tab.lookup x = some i) (h0 : S[i]? = some s) (m0 : Mine s (.lst (xs.map Enc.enc))) (hb : DE G b S (.int n) S) (hn : chkRg 0 n = some u) (hz : chkN (xs.length * n.toNat) = some u2) : DF G (.BinOp (.Name x p1) .Mult b pos) S (.lst ((List.replicate n.toNat xs).flatten.map Enc.enc)) S := fun X ok => by
  obtain ⟨v1, v2, v3, v4⟩ := ok.var hx
  refine PE_weak (pe_op op_rep (pe_var v1 v2 v3 v4) (hb X ok)) fun σ H Q ⟨B, hh, k⟩ => ?_
  obtain ⟨a, ea, _⟩ : ∃ a, σ[i]? = some (some (V.ref a)) ∧ True := by
    have q := hh.sl i s h0
    cases m0 with
    | own => obtain ⟨a, e, _⟩ := q; exact ⟨a, e, trivial⟩
    | io => obtain ⟨a, e, _⟩ := q; exact ⟨a, e, trivial⟩
  refine ⟨_, ea, B, hh, fun v H2 h2 r2 q2 => ?_⟩
  obtain ⟨vs, ev, rv⟩ : ∃ vs, H2 a = some (.lst vs) ∧ Reps X.K (Av S σ B) H2 vs (xs.map Enc.enc) := by
    have q := h2.sl i s h0
    cases m0 with
    | own => obtain ⟨a2, e, vs, e2, rv⟩ := q; rw [ea] at e; cases e; exact ⟨vs, e2, rv⟩
    | io => obtain ⟨a2, e, vs, e2, rv⟩ := q; rw [ea] at e; cases e; exact ⟨vs, e2, rv⟩
  have q := of_ite hn
  have hz2 := chkN_le hz
  refine ⟨a, n, vs, rfl, rep_int q2, ev, by omega, by omega, by rw [rv.length, List.length_map]; exact hz2, fun p hp => ?_⟩
  refine k p _ (r2.free hp) (h2.free hp) (h2.newB hp trivial) (r2.trans (Rel.same (upd_keep hp))) ⟨_, upd_same, ?_⟩
  have rr : ∀ k : Nat, Reps X.K (Av S σ B) H2 (List.replicate k vs).flatten ((List.replicate k xs).flatten.map Enc.enc) := fun k => by
    induction k with
    | zero => exact .nil
    | succ k ih =>
      rw [List.replicate_succ, List.replicate_succ, List.flatten_cons, List.flatten_cons, List.map_append]
      exact rv.append ih
  exact (rr _).new (upd_keep hp) hp
end
end Pw
/-! ### a clause of a comprehension, whatever stands behind it; dict comprehensions with two fors -/
namespace Pw
open PySem PySem.Spec L2 PyProof.Rows
/-- the turns of one clause -/
def lap (e : Expr) (n : Nat) (tg : Expr) (ifs : List Expr) (p : Pos) (tail : Sem Fin) (it acc : Value) (env : Env) : Sem Fin := do
  standAt p
  match ← pyNext it with
  | none => pure (.done .next)
  | some v =>
    letOwnedTupleGo tg it v
    assign tg env v
    let mut ok := true
    for c in ifs do
      if ok then ok ← isTrue c env (eval c env)
    if ok then tail else again (.compLoop e n it acc env)
section
variable {X : Cx} {kx vx tg : Expr} {gens : List Comprehension} {scope : Scope} {pos : Pos} {n : Nat} {ifs : List Expr} {p : Pos} {tail : Sem Fin} {acc : Value} {g : TG} {tt : TT} {vs : List Nat}
theorem clause_loop {it : Addr} {fp : List Addr} {tn : Nat → Heap → Prop} {J : It} {pins : List (Addr × Obj)} {σ : L2.St} {R : Result → Shared → Prop} {W : Nat → Nat → Hp → Prop} {Done : Hp → Prop} {Body : L2.St → Hp → (Hp → Prop) → Prop}
    (calm : X.calm = true) (noX : X.xe = fun _ _ => False) (shape : compTurn (.DictComp kx vx gens scope pos) n (.ref it) acc X.env = lap (.DictComp kx vx gens scope pos) n tg ifs p tail (.ref it) acc X.env)
    (store : PG X tg g) (tests : PTs X ifs tt) (T : Turn X.prog X.w X.K tg J fp it tn)
    (foot : ∀ σ' H' s', Inv X pins σ' H' s' → (∀ b ∈ fp, H' b = none) → ∀ b ∈ fp, FpOk X pins H' b)
    (plan : ∀ i k H, W i k H → (J.stop i H ∧ Done H) ∨ (J.go i H ∧ ∃ Nx : Hp → Prop, (∀ H', Nx H' → ∃ k', k' < k ∧ W (i + 1) k' H') ∧ ∀ x H', J.yld i H x H' → g x (L2.wipe σ vs) H' fun σ2 H2 => L2.wipe σ2 vs = L2.wipe σ vs ∧ tt σ2 H2 fun b H3 => if b = true then Body σ2 H3 Nx else Nx H3))
    (body : ∀ pl s σ2 H3 Nx, L2.wipe σ2 vs = L2.wipe σ vs → Inv X (pins ++ pl) σ2 H3 s → Body σ2 H3 Nx →
      wpAny (model X.prog X.w) X.A tail (fun f s' => f = .again (.compLoop (.DictComp kx vx gens scope pos) n (.ref it) acc X.env) ∧ ∃ σ3 H', Inv X (pins ++ pl) σ3 H' s' ∧ L2.wipe σ3 vs = L2.wipe σ vs ∧ Nx H') (fun _ _ => False) s)
    (stopped : ∀ s' H', Inv X pins (L2.wipe σ vs) H' s' → Done H' → R (.ok .next) s') :
    ∀ k s i H, Inv X pins (L2.wipe σ vs) H s → tn i s.heap → (∀ b ∈ fp, H b = none) → W i k H → codeAny (model X.prog X.w) X.A (.compLoop (.DictComp kx vx gens scope pos) n (.ref it) acc X.env) R s := by
  intro k s i H hI hT hF hW
  refine codeAny_loop rfl (fun k s => ∃ i H, Inv X pins (L2.wipe σ vs) H s ∧ tn i s.heap ∧ (∀ b ∈ fp, H b = none) ∧ W i k H) (fun k s hk => ?_) k ⟨i, H, hI, hT, hF, hW⟩
  clear hI hT hF hW i H
  obtain ⟨i, H, hI, hT, hF, hW⟩ := hk
  show wpAny _ X.A ((compTurn (.DictComp kx vx gens scope pos) n (.ref it) acc X.env).onRaise _) _ _ s
  refine wpAny_noted ?_
  rw [shape]
  -- back to the invariant behind a turn
  have close : ∀ {pl : List (Addr × Obj)} {hp : Heap} {s' : Shared} {σ' : L2.St} {H' : Hp} {Nx : Hp → Prop}, pl = pinsAt fp hp → tn (i + 1) hp → (∀ H', Nx H' → ∃ k', k' < k ∧ W (i + 1) k' H') → Inv X (pins ++ pl) σ' H' s' → L2.wipe σ' vs = L2.wipe σ vs → Nx H' →
      ∃ m, m < k ∧ ∃ i H, Inv X pins (L2.wipe σ vs) H s' ∧ tn i s'.heap ∧ (∀ b ∈ fp, H b = none) ∧ W i m H := fun {pl hp s' σ' H' Nx} epl tl down iv ew nx => by
    obtain ⟨m, lt, w⟩ := down H' nx
    subst epl
    have held : ∀ b ∈ fp, ∀ o, hp.get? b = some o → s'.heap.get? b = some o ∧ H' b = none := fun b hb o eo => by
      obtain ⟨q1, q2, _⟩ := iv.pin (b, o) (List.mem_append_right _ (List.mem_append_right _ (mem_pinsAt hb eo)))
      exact ⟨q1, q2⟩
    refine ⟨m, lt, i + 1, H', iv.unpinned.weak (by rw [← ew, wipe_length]) (fun j v q => by rw [← ew] at q; exact (wipe_some q).1), T.keep _ _ _ tl fun b hb o eo => (held b hb o eo).1, fun b hb => ?_, w⟩
    obtain ⟨o, eo, _⟩ := T.obj _ _ tl b hb
    exact (held b hb o eo).2
  unfold lap
  rcases plan i k H hW with ⟨st, dn⟩ | ⟨go, Nx, down, turn⟩
  · refine wpAny_bind (wpAny_standAt (wpAny_bind (thnF (T.done X rfl rfl rfl calm i pins s _ H _ hI (foot _ _ _ hI hF) hT st) fun r s1 ⟨er, i1⟩ => ?_)))
    subst er
    exact wpAny_pure (stopped s1 H i1 dn)
  · refine wpAny_bind (wpAny_standAt (wpAny_bind (thnF (T.item X rfl rfl rfl calm i pins s _ H _ hI (foot _ _ _ hI hF) hT go) fun r s1 ⟨u, er, h1⟩ => ?_)))
    subst er
    refine wpAny_bind (thnF h1 fun _ s2 ⟨x, H2, i2, rx, yx, t2, f2⟩ => ?_)
    have i2' := i2.pinned (foot _ _ _ i2 f2) (T.obj _ _ t2)
    have a3 := store.run _ s2 _ H2 x u _ i2' rx (turn x H2 yx)
    rw [noX] at a3
    refine wpAny_bind (thnF a3 fun _ s3 ⟨σ3, H3, i3, e3, q3⟩ => ?_)
    have a4 := tests.run _ s3 σ3 H3 _ i3 q3
    rw [noX] at a4
    refine wpAny_bind (thnF a4 fun b s4 ⟨H4, i4, q4⟩ => ?_)
    cases b with
    | false => exact wpAny_pure ⟨rfl, close rfl t2 down i4 e3 q4⟩
    | true =>
      refine thnF (body _ s4 σ3 H4 Nx e3 i4 q4) fun f s5 ⟨ef, σ5, H5, i5, e5, nx⟩ => ?_
      subst ef
      exact ⟨rfl, close rfl t2 down i5 e5 nx⟩
end
abbrev eD2 (kx vx tg iter : Expr) (ifs : List Expr) (tg1 iter1 : Expr) (ifs1 : List Expr) (scope : Scope) (pos : Pos) : Expr := .DictComp kx vx [⟨tg, iter, ifs, 0⟩, ⟨tg1, iter1, ifs1, 0⟩] scope pos
/-- what the block's inner clause does with the new dict D, till Nx -/
abbrev putD (tk tv : TE) (D : Addr) (σ : L2.St) (H : Hp) (Nx : Hp → Prop) : Prop := tk σ H fun y H1 => tv σ H1 fun z H2 => ∃ kvs k, y = kV k ∧ H2 D = some (.dK kvs) ∧ kvs.length < sizeLine ∧ Nx (upd H2 D (.dK (putK kvs k z)))
/-- the turns of a clause: J is walked, Body is done with the items that pass, then Done -/
abbrev planD (J : It) (g : TG) (tt : TT) (vs : List Nat) (σ : L2.St) (Body : L2.St → Hp → (Hp → Prop) → Prop) (Done : Hp → Prop) (W : Nat → Nat → Hp → Prop) : Prop :=
  ∀ i k H, W i k H → (J.stop i H ∧ Done H) ∨ (J.go i H ∧ ∃ Nx : Hp → Prop, (∀ H', Nx H' → ∃ k', k' < k ∧ W (i + 1) k' H') ∧ ∀ x H', J.yld i H x H' → g x (L2.wipe σ vs) H' fun σ2 H2 => L2.wipe σ2 vs = L2.wipe σ vs ∧ tt σ2 H2 fun b H3 => if b = true then Body σ2 H3 Nx else Nx H3)
abbrev innerD (wi1 : TI) (g1 : TG) (tt1 : TT) (tk tv : TE) (vs1 : List Nat) (D : Addr) (σ : L2.St) (H : Hp) (Nx : Hp → Prop) : Prop := wi1 σ H fun J H1 => ∃ W, (∃ m, W 0 m H1) ∧ planD J g1 tt1 vs1 σ (putD tk tv D) Nx W
def tDc2 (wi : TI) (g : TG) (tt : TT) (wi1 : TI) (g1 : TG) (tt1 : TT) (tk tv : TE) (vs vs1 : List Nat) : TE := fun σ H Q => wi σ H fun J H1 => ∀ D, H1 D = none → ∃ W, (∃ m, W 0 m (upd H1 D (.dK []))) ∧ planD J g tt vs σ (innerD wi1 g1 tt1 tk tv vs1 D) (fun H => Q (.ref D) H) W
section
variable {X : Cx} {kx vx tg iter tg1 iter1 : Expr} {ifs ifs1 : List Expr} {scope : Scope} {pos : Pos} {wi wi1 : TI} {g g1 : TG} {tt tt1 : TT} {tk tv : TE} {vs vs1 : List Nat} {own : List (Str × Nat)}
/-- the inner clause, put ahead of what the outer does next -/
theorem inner_run {it : Addr} {D : Addr} {pins : List (Addr × Obj)} {s : Shared} {σ : L2.St} {H : Hp} {Nx : Hp → Prop} (calm : X.calm = true) (noX : X.xe = fun _ _ => False)
    (src : PI X tg1 iter1 wi1) (plain : ∀ env x, foldedSetIterable iter1 env x = pure x) (store : PG X tg1 g1) (tests : PTs X ifs1 tt1) (key : PE X kx tk) (val : PE X vx tv) (sub : ∀ i ∈ vs1, i ∈ vs) {σ0 : L2.St} (e0 : L2.wipe σ vs = L2.wipe σ0 vs)
    (I : Inv X pins σ H s) (h : innerD wi1 g1 tt1 tk tv vs1 D σ H Nx) :
    wpAny (model X.prog X.w) X.A (do
      let x ← eval iter1 X.env
      standAt iter1.pos
      let x ← foldedSetIterable iter1 X.env x
      let _ ← runOwn (.compStart (eD2 kx vx tg iter ifs tg1 iter1 ifs1 scope pos) 1 (← holding [x] (pyIter x)) (.ref D) X.env) X.env
      again (.compLoop (eD2 kx vx tg iter ifs tg1 iter1 ifs1 scope pos) 0 (.ref it) (.ref D) X.env)) (fun f s' => f = .again (.compLoop (eD2 kx vx tg iter ifs tg1 iter1 ifs1 scope pos) 0 (.ref it) (.ref D) X.env) ∧ ∃ σ3 H', Inv X pins σ3 H' s' ∧ L2.wipe σ3 vs = L2.wipe σ0 vs ∧ Nx H') (fun _ _ => False) s := by
  have a1 := src.run pins s σ H _ I h
  rw [noX] at a1
  refine wpAny_bind (thnF a1 fun xv s1 a2 => wpAny_bind (wpAny_standAt (wpAny_bind (wpAny_of_eq (plain X.env xv) (wpAny_bind (wpAny_holding (thnF a2 fun itv s2 a3 => ?_)))))))
  obtain ⟨it1, fp, tn, J, H2, rfl, i2, T, t2, f2, W, ⟨m, w⟩, plan⟩ := a3
  have run : codeAny (model X.prog X.w) X.A (.compLoop (eD2 kx vx tg iter ifs tg1 iter1 ifs1 scope pos) 1 (.ref it1) (.ref D) X.env) (fun r s' => match r with
      | .ok _ => ∃ σ3 H', Inv X pins σ3 H' s' ∧ L2.wipe σ3 vs = L2.wipe σ0 vs ∧ Nx H'
      | .error _ => False) s2 :=
    clause_loop (J := J) (p := iter1.pos) (tail := (do
      let kv ← eval kx X.env
      let vv ← holding [kv] (eval vx X.env)
      standAt { kx.pos with endLine := vx.pos.endLine, endCol := vx.pos.endCol }
      holding [kv, vv] (dictSet D kv vv) : Sem Unit) >>= fun _ => again (.compLoop (eD2 kx vx tg iter ifs tg1 iter1 ifs1 scope pos) 1 (.ref it1) (.ref D) X.env)) (Body := putD tk tv D) (Done := Nx) (W := W) calm noX rfl store tests T (fun σ' H' s' _ hn b hb => ⟨hn b hb, (f2 b hb).2⟩) plan (fun pl s σ2 H3 Nx' e i q => by
        have b1 := key.run _ s σ2 H3 _ i q
        rw [noX] at b1
        refine wpAny_bind (wpAny_bind (thnF b1 fun kv s4 ⟨y, H4, i4, r4, q4⟩ => ?_))
        have b2 := val.run _ s4 σ2 H4 _ i4 q4
        rw [noX] at b2
        refine wpAny_bind (wpAny_holding (thnF b2 fun vv s5 ⟨z, H5, i5, r5, kvs, k, ek, hD, hl, nx⟩ => ?_))
        subst ek
        exact wpAny_bind (wpAny_standAt (wpAny_holding (d_dictSet i5 hD hl r4 r5 fun s6 i6 => wpAny_pure ⟨rfl, σ2, _, i6, e, nx⟩)))) (fun s' H' i d => ⟨_, H', i, by rw [wipe_sub sub]; exact e0, d⟩) m s2 0 H2 (i2.weak (wipe_length _ _) fun j v q => (wipe_some q).1) t2 (fun b hb => (f2 b hb).1) w
  refine wpAny_bind (wpAny_runOwn ?_)
  rw [Around.mark_none]
  have start : codeAny (model X.prog X.w) X.A (.compStart (eD2 kx vx tg iter ifs tg1 iter1 ifs1 scope pos) 1 (.ref it1) (.ref D) X.env) (fun r s' => match r with
      | .ok _ => ∃ σ3 H', Inv X pins σ3 H' s' ∧ L2.wipe σ3 vs = L2.wipe σ0 vs ∧ Nx H'
      | .error _ => False) s2 := by
    refine codeAny_of_tree ?_
    show wpAny _ _ ((compStart (eD2 kx vx tg iter ifs tg1 iter1 ifs1 scope pos) 1 (.ref it1) (.ref D) X.env).onRaise _) _ _ s2
    refine wpAny_notedAt ?_
    unfold compStart
    show wpAny _ _ (ask >>= _) _ _ s2
    refine wpAny_bind (wpAny_askSetting (wpAny_ite ?_))
    split
    · first
        | exact wpAny_pure ⟨rfl, run⟩
        | exact wpAny_bind (wpAny_pure (wpAny_pure ⟨rfl, run⟩))
    · refine wpAny_bind (wpAny_rule ?_)
      first
        | exact wpAny_bind (wpAny_standAt (wpAny_bind (T.self X.A 0 s2 _ _ t2 (wpAny_pure ⟨rfl, run⟩))))
        | (show wpAny _ _ (standAt iter1.pos >>= _) _ _ s2; exact wpAny_bind (wpAny_standAt (wpAny_bind (T.self X.A 0 s2 _ _ t2 (wpAny_pure ⟨rfl, run⟩)))))
  refine codeAny_mono start fun r s' hr => ?_
  cases r with
  | error e => exact hr.elim
  | ok f => exact wpAny_pure ⟨rfl, hr⟩
/-- {k: v for tg in iter if .. for tg1 in iter1 if ..} -/
theorem dc2_run {pins : List (Addr × Obj)} {s : Shared} {σ : L2.St} {H : Hp} {Q : VK} {use : Option (Value → Sem Unit)} {Qf : Value → Shared → Prop} {cpos : Pos} (calm : X.calm = true) (nd : X.N.Nodup) (src : PI X tg iter wi) (blk : BlkOk X.N X.env.scope scope own) (sub : ∀ i ∈ vs1, i ∈ own.map (·.2))
    (store : ∀ (s : Shared) (H : Hp) (C : Addr) (cl : List (Str × Addr)) (fp : List Addr), PG (X.blk s H scope (compEnvC scope cl C X.env) fp) tg g)
    (tests : ∀ (s : Shared) (H : Hp) (C : Addr) (cl : List (Str × Addr)) (fp : List Addr), PTs (X.blk s H scope (compEnvC scope cl C X.env) fp) ifs tt)
    (src1 : ∀ (s : Shared) (H : Hp) (C : Addr) (cl : List (Str × Addr)) (fp : List Addr), PI (X.blk s H scope (compEnvC scope cl C X.env) fp) tg1 iter1 wi1)
    (store1 : ∀ (s : Shared) (H : Hp) (C : Addr) (cl : List (Str × Addr)) (fp : List Addr), PG (X.blk s H scope (compEnvC scope cl C X.env) fp) tg1 g1)
    (tests1 : ∀ (s : Shared) (H : Hp) (C : Addr) (cl : List (Str × Addr)) (fp : List Addr), PTs (X.blk s H scope (compEnvC scope cl C X.env) fp) ifs1 tt1)
    (key : ∀ (s : Shared) (H : Hp) (C : Addr) (cl : List (Str × Addr)) (fp : List Addr), PE (X.blk s H scope (compEnvC scope cl C X.env) fp) kx tk)
    (val : ∀ (s : Shared) (H : Hp) (C : Addr) (cl : List (Str × Addr)) (fp : List Addr), PE (X.blk s H scope (compEnvC scope cl C X.env) fp) vx tv)
    (plain : ∀ x, foldedSetIterable iter X.env x = pure x) (plain1 : ∀ env x, foldedSetIterable iter1 env x = pure x)
    (I : Inv X pins σ H s) (h : tDc2 wi g tt wi1 g1 tt1 tk tv (own.map (·.2)) vs1 σ H Q)
    (leave : ∀ D C s' m H', Inv X pins σ H' s' → Q (.ref D) H' → s'.heap.Ns C m → FpOk X pins H' C → compPost (model X.prog X.w) X.A X.xe use Qf (.ref D) C (.ok .next) s') :
    wpAny (model X.prog X.w) X.A (comprehension (eD2 kx vx tg iter ifs tg1 iter1 ifs1 scope pos) scope X.env cpos newDict false (eval iter X.env) use) Qf X.xe s := by
  unfold eD2
  have known : ∀ y ∈ scope.names, y.2 = .free → ∃ c, X.env.cells.lookup y.1 = some c := fun y hy ey => (blk.free y hy ey).elim (fun q => I.ok.has _ (.inl q)) fun q => I.ok.has _ (.inr q)
  refine wpAny_comprehension_free (use := use) rfl plain (closure_ok known) blk.kind (fun y hy ey => by rw [blk.uniq y hy, ey]) (thn (src.run pins s σ H _ I h) fun xv s1 h1 => thn h1 fun itv s2 h2 => ?_)
  obtain ⟨it, fp, tn, J, H2, rfl, i2, T, t2, f2, rest⟩ := h2
  refine wpAny_newObj_type (newEnv_comp ?_)
  have fresh : H2 s2.heap.objs.size = none := i2.hok.fresh (Nat.le_refl _)
  obtain ⟨W, ⟨m, w⟩, plan⟩ := rest _ fresh
  -- the new dict is laid; then the block's own frame
  have i3 : Inv X pins σ (upd H2 s2.heap.objs.size (.dK [])) { s2 with heap := s2.heap.push { cls := .type "dict", data := .dict #[] } } :=
    i2.laid (t' := s2.toks) (fun b o eo => Heap.get?_push_of_some _ eo) (Nat.le_refl _) (dk_empty s2.heap i2.big)
  have lt : ∀ b ∈ fp, b < s2.heap.objs.size := fun b hb => by
    obtain ⟨o, eo, _⟩ := T.obj _ _ t2 b hb
    exact Heap.lt_size eo
  generalize eD : s2.heap.objs.size = D at fresh w plan i3 lt ⊢
  generalize eH : upd H2 D (.dK []) = H3 at i3 w
  have f3 : ∀ b ∈ fp, FpOk X pins H3 b ∧ b < ({ s2 with heap := s2.heap.push { cls := .type "dict", data := .dict #[] } } : Shared).heap.objs.size := fun b hb => by
    refine ⟨⟨?_, (f2 b hb).2⟩, ?_⟩
    · rw [← eH, upd_ne (Nat.ne_of_lt (lt b hb))]
      exact (f2 b hb).1
    · show b < (s2.heap.push _).objs.size
      rw [Heap.size_push, eD]
      exact Nat.lt_succ_of_lt (lt b hb)
  have t3 : tn 0 ({ s2 with heap := s2.heap.push { cls := .type "dict", data := .dict #[] } } : Shared).heap := T.keep _ _ _ t2 fun b _ o eo => Heap.get?_push_of_some _ eo
  generalize eS : ({ s2 with heap := s2.heap.push { cls := .type "dict", data := .dict #[] } } : Shared) = s3 at i3 f3 t3
  have i4 := block_start i3 blk nd f3
  have t4 : tn 0 ({ s3 with heap := pushCells (s3.heap.push { cls := .type "dict", data := .dict #[] }) scope.names } : Shared).heap := T.keep _ _ _ t3 fun b _ o eo => pushCells_keeps _ _ _ _ (Heap.get?_push_of_some _ eo)
  show codeAny _ _ (.compStart (eD2 kx vx tg iter ifs tg1 iter1 ifs1 scope pos) 0 (.ref it) (.ref D) (compEnvC scope (cellsFrom (s3.heap.objs.size + 1) scope.names (cloFrom X.env.cells scope.names [])) s3.heap.objs.size X.env)) (compPost (model X.prog X.w) X.A X.xe use Qf (.ref D) s3.heap.objs.size) { s3 with heap := pushCells (s3.heap.push { cls := .type "dict", data := .dict #[] }) scope.names }
  have st := store s3 H3 s3.heap.objs.size (cellsFrom (s3.heap.objs.size + 1) scope.names (cloFrom X.env.cells scope.names [])) fp
  have te := tests s3 H3 s3.heap.objs.size (cellsFrom (s3.heap.objs.size + 1) scope.names (cloFrom X.env.cells scope.names [])) fp
  have sr1 := src1 s3 H3 s3.heap.objs.size (cellsFrom (s3.heap.objs.size + 1) scope.names (cloFrom X.env.cells scope.names [])) fp
  have st1 := store1 s3 H3 s3.heap.objs.size (cellsFrom (s3.heap.objs.size + 1) scope.names (cloFrom X.env.cells scope.names [])) fp
  have te1 := tests1 s3 H3 s3.heap.objs.size (cellsFrom (s3.heap.objs.size + 1) scope.names (cloFrom X.env.cells scope.names [])) fp
  have ke := key s3 H3 s3.heap.objs.size (cellsFrom (s3.heap.objs.size + 1) scope.names (cloFrom X.env.cells scope.names [])) fp
  have va := val s3 H3 s3.heap.objs.size (cellsFrom (s3.heap.objs.size + 1) scope.names (cloFrom X.env.cells scope.names [])) fp
  generalize eC : compEnvC scope (cellsFrom (s3.heap.objs.size + 1) scope.names (cloFrom X.env.cells scope.names [])) s3.heap.objs.size X.env = C at i4 st te sr1 st1 te1 ke va ⊢
  have own0 : C.locals = s3.heap.objs.size := by rw [← eC]; rfl
  have loop := clause_loop (X := X.blk s3 H3 scope C fp) (kx := kx) (vx := vx) (gens := [⟨tg, iter, ifs, 0⟩, ⟨tg1, iter1, ifs1, 0⟩]) (scope := scope) (pos := pos) (n := 0) (acc := .ref D) (p := iter.pos) (tail := do
      let x ← eval iter1 C
      standAt iter1.pos
      let x ← foldedSetIterable iter1 C x
      let _ ← runOwn (.compStart (eD2 kx vx tg iter ifs tg1 iter1 ifs1 scope pos) 1 (← holding [x] (pyIter x)) (.ref D) C) C
      again (.compLoop (eD2 kx vx tg iter ifs tg1 iter1 ifs1 scope pos) 0 (.ref it) (.ref D) C)) (pins := []) (σ := σ) (vs := List.map (fun x : Str × Nat => x.2) own) (R := compPost (model X.prog X.w) X.A X.xe use Qf (.ref D) s3.heap.objs.size) (W := W) (Done := fun H => Q (.ref D) H) (Body := innerD wi1 g1 tt1 tk tv vs1 D) calm rfl rfl st te T
    (fun σ' H' s' i' none' b hb => ⟨none' b hb, (i'.ok.exf b hb).1, i'.ok.exfs b hb, .inl hb, fun x c ec => (i'.ok.exf b hb).2 x c ec, fun q hq => absurd (show q ∈ ([] : List (Addr × Obj)) ++ [] from hq) (by simp)⟩) plan
    (fun pl s σ2 H3 Nx e i q => inner_run (X := X.blk s3 _ scope C fp) calm rfl sr1 plain1 st1 te1 ke va sub e i q)
    (fun s' H' i' q => by
      have back : Inv X pins σ H' s' := i3.call' (ch := fp) i'.os i'.base i'.hok i'.bare fun b hb => ⟨(f3 b hb).1.2.2.2.1, (f3 b hb).1.2.1, (f3 b hb).1.2.2.2.2.1, (f3 b hb).1.2.2.2.2.2⟩
      have noC : H' s3.heap.objs.size = none := by rw [← own0]; exact i'.free
      obtain ⟨mm, hn, _⟩ := i'.loc
      have hn : s'.heap.Ns C.locals mm := hn
      rw [own0] at hn
      exact leave D _ s' mm H' back q hn (i3.fpOk (Nat.le_refl _) noC))
    m _ 0 H3 i4 t4 (fun b hb => (f3 b hb).1.1) w
  exact codeAny_compStart_dict loop (T.self X.A 0 _ _ _ t4 loop)
/-- what a dict comprehension's parts give, two fors -/
def DcP2 (X : Cx) (kx vx tg iter : Expr) (ifs : List Expr) (tg1 iter1 : Expr) (ifs1 : List Expr) (scope : Scope) (own : List (Str × Nat)) (vs1 : List Nat) (t : TE) : Prop :=
  ∃ wi g tt wi1 g1 tt1 tk tv, PI X tg iter wi ∧ BlkOk X.N X.env.scope scope own ∧ (∀ i ∈ vs1, i ∈ own.map (·.2)) ∧
    (∀ (s : Shared) (H : Hp) (C : Addr) (cl : List (Str × Addr)) (fp : List Addr), PG (X.blk s H scope (compEnvC scope cl C X.env) fp) tg g) ∧ (∀ (s : Shared) (H : Hp) (C : Addr) (cl : List (Str × Addr)) (fp : List Addr), PTs (X.blk s H scope (compEnvC scope cl C X.env) fp) ifs tt) ∧
    (∀ (s : Shared) (H : Hp) (C : Addr) (cl : List (Str × Addr)) (fp : List Addr), PI (X.blk s H scope (compEnvC scope cl C X.env) fp) tg1 iter1 wi1) ∧ (∀ (s : Shared) (H : Hp) (C : Addr) (cl : List (Str × Addr)) (fp : List Addr), PG (X.blk s H scope (compEnvC scope cl C X.env) fp) tg1 g1) ∧
    (∀ (s : Shared) (H : Hp) (C : Addr) (cl : List (Str × Addr)) (fp : List Addr), PTs (X.blk s H scope (compEnvC scope cl C X.env) fp) ifs1 tt1) ∧ (∀ (s : Shared) (H : Hp) (C : Addr) (cl : List (Str × Addr)) (fp : List Addr), PE (X.blk s H scope (compEnvC scope cl C X.env) fp) kx tk) ∧
    (∀ (s : Shared) (H : Hp) (C : Addr) (cl : List (Str × Addr)) (fp : List Addr), PE (X.blk s H scope (compEnvC scope cl C X.env) fp) vx tv) ∧ ∀ σ H Q, t σ H Q → tDc2 wi g tt wi1 g1 tt1 tk tv (own.map (·.2)) vs1 σ H Q
theorem pe_dc2 {t : TE} (calm : X.calm = true) (nd : X.N.Nodup) (h : DcP2 X kx vx tg iter ifs tg1 iter1 ifs1 scope own vs1 t) (plain : ∀ x, foldedSetIterable iter X.env x = pure x) (plain1 : ∀ env x, foldedSetIterable iter1 env x = pure x) : PE X (eD2 kx vx tg iter ifs tg1 iter1 ifs1 scope pos) t := ⟨fun pins s σ H Q I q => by
  obtain ⟨wi, g, tt, wi1, g1, tt1, tk, tv, h1, h2, h3, h4, h5, h6, h7, h8, h9, h10, hq⟩ := h
  unfold eD2
  rw [arm_eval_DictComp]
  refine dc2_run (use := none) calm nd h1 h2 h3 h4 h5 h6 h7 h8 h9 h10 plain plain1 I (hq _ _ _ q) fun D C s' m H' i q hn hf => ⟨m, hn, fun h'' same => ?_⟩
  obtain ⟨c0, c1, c2, c3, c4, c5⟩ := hf
  exact ⟨.ref D, H', i.turned (t' := s'.toks) (fun b o hb eo => (same.2 b hb).trans eo) c0 c1 c3 c4 c5, rfl, q⟩⟩
/-- name = {..}: stored ahead of what the block lets go -/
theorem ps_setDc2 {t : TE} {i : Nat} {x : Str} {p1 spos : Pos} (calm : X.calm = true) (nd : X.N.Nodup) (hx : X.N[i]? = some x) (loc : X.env.scope.names.lookup x = some .local)
    (swap : swapsWith (eD2 kx vx tg iter ifs tg1 iter1 ifs1 scope pos) (some (.Name x p1)) spos.line X.env = pure true) (h : DcP2 X kx vx tg iter ifs tg1 iter1 ifs1 scope own vs1 t) (plain : ∀ x, foldedSetIterable iter X.env x = pure x) (plain1 : ∀ env x, foldedSetIterable iter1 env x = pure x) :
    PS X (.Assign [.Name x p1] (eD2 kx vx tg iter ifs tg1 iter1 ifs1 scope pos) spos) (tAsg t (gName i)) := ⟨fun pins s σ H D I q => by
  obtain ⟨wi, g, tt, wi1, g1, tt1, tk, tv, h1, h2, h3, h4, h5, h6, h7, h8, h9, h10, hq⟩ := h
  have q : t σ H (fun y H1 => gName i y σ H1 D.nx) := q
  rw [exec_Assign_Name_used _ _ _ _ swap]
  refine wpAny_bind (wpAny_standAt (wpAny_bind ?_))
  show wpAny _ X.A (do let _ ← comprehension (eD2 kx vx tg iter ifs tg1 iter1 ifs1 scope pos) scope X.env _ newDict false (eval iter X.env) (some (assign (.Name x p1) X.env))) _ _ s
  refine wpAny_bind (thn (dc2_run (Qf := fun _ s' => SP X pins D .next s') calm nd h1 h2 h3 h4 h5 h6 h7 h8 h9 h10 plain plain1 I (hq _ _ _ q) fun L C s' m H' i' q' hn hf => ?_) fun _ s' z => wpAny_pure (wpAny_pure z))
  show wpAny _ _ (assign _ X.env (.ref L)) _ _ _
  obtain ⟨c0, c1, c2, c3, c4, c5⟩ := hf
  refine wpAny_assign_Name (store_ok2 (v := V.ref L) i' nd hx (.inl loc) rfl (fun s2 i2 ⟨a, same, ha⟩ => ?_) (.inr loc))
  have off : C ≠ a := ha.elim (fun z => by rw [z]; exact c1) fun z e => c4 x a z e.symm
  exact ⟨m, hn.sameBut same off, fun h3 same3 => ⟨_, H', i2.turned (t' := s2.toks) (fun b o hb eo => (same3.2 b hb).trans eo) c0 c1 c3 c4 c5, q'⟩⟩⟩
end
section
variable {α β γ : Type} {G : Cxt} {S S1 : List Sl} {kx vx tg iter tg1 iter1 : Expr} {ifs ifs1 : List Expr} {pos : Pos} {vs1 : List Nat}
/-- one turn of the inner loop, with nothing changed -/
def Turn2D (G : Cxt) (kx vx : Expr) (ifs : List Expr) (T : List Sl) (h : β → Key × PyData) : Option β → Prop
  | none => DTs G ifs T false T
  | some y => DTs G ifs T true T ∧ DE G kx T (kD (h y).1) T ∧ DE G vx T (h y).2 T
/-- one turn of the outer loop -/
def InnerD (Gb : Cxt) (kx vx tg1 iter1 : Expr) (ifs ifs1 : List Expr) (vs1 : List Nat) (T : List Sl) (f1 : γ → PyData) (h : β → Key × PyData) (l : List β) : Prop :=
  (DTs Gb ifs T false T ∧ l = []) ∨ (DTs Gb ifs T true T ∧ ∃ (ix1 : List Nat) (ys : List γ) (step : γ → Option (Option β)) (T2 : γ → List Sl), (∀ i ∈ ix1, i ∈ vs1) ∧ DI2 Gb tg1 iter1 T (ys.map f1) T ∧ compO step ys = some l ∧ (∀ y ∈ ys, DG Gb tg1 ix1 (wipeS T vs1) (f1 y) (T2 y)) ∧
    (∀ y ∈ ys, wipeS (T2 y) vs1 = wipeS T vs1) ∧ ∀ y o, y ∈ ys → step y = some o → Turn2D Gb kx vx ifs1 (T2 y) h o)
theorem dc2_ok {scope : Scope} {own : List (Str × Nat)} {tab : List (Str × Nat)} {loc : List Str} {ix : List Nat} {f : α → PyData} {f1 : γ → PyData} {h : β → Key × PyData} {xs : List α} {all : List β} {inner : α → Option (List β)} {T1 : α → List Sl}
    (hc : (G.blk scope tab loc).chk = true) (hb : blkC G.N G.sc scope own = true) (hv : ∀ i ∈ vs1, i ∈ own.map (·.2)) (hz : DI G tg iter S (xs.map f) S1) (hn : noOwn S1 (own.map (·.2)) = true)
    (hix : ∀ i ∈ ix, i ∈ own.map (·.2)) (hg : ∀ x, x ∈ xs → DG (G.blk scope tab loc) tg ix (wipeS S1 (own.map (·.2))) (f x) (T1 x)) (hT : ∀ x, x ∈ xs → wipeS (T1 x) (own.map (·.2)) = wipeS S1 (own.map (·.2)) ∧ noOwn (T1 x) (own.map (·.2)) = true)
    (hi : ∀ x l, x ∈ xs → inner x = some l → InnerD (G.blk scope tab loc) kx vx tg1 iter1 ifs ifs1 vs1 (T1 x) f1 h l) (he : flatO inner xs = some all) (hl : all.length ≤ sizeLine) (X : Cx) (ok : G.Ok X) : DcP2 X kx vx tg iter ifs tg1 iter1 ifs1 scope own vs1 (tF X.K S (.dk (ofP (all.map h))) S1) := by
  have hblk : BlkOk X.N X.env.scope scope own := by
    rw [ok.N, ok.sc]
    exact blkOk_by hb
  have okb := fun s H C cl fp => ok.blk hc s H C cl fp
  generalize hvs : own.map (·.2) = vs at hv hn hix hg hT
  refine ⟨tIt X.K S (xs.map f) S1, fun v σ H Q => ∃ i : List Nat × List Sl × PyData × List Sl, DG (G.blk scope tab loc) tg i.1 i.2.1 i.2.2.1 i.2.2.2 ∧ tGt X.K i.1 i.2.1 i.2.2.1 i.2.2.2 v σ H Q, fun σ H Q => ∃ i : List Sl × Bool × List Sl, DTs (G.blk scope tab loc) ifs i.1 i.2.1 i.2.2 ∧ tT X.K i.1 i.2.1 i.2.2 σ H Q, fun σ H Q => ∃ i : List Sl × List PyData × List Sl, DI2 (G.blk scope tab loc) tg1 iter1 i.1 i.2.1 i.2.2 ∧ tIt2 X.K i.1 i.2.1 i.2.2 σ H Q, fun v σ H Q => ∃ i : List Nat × List Sl × PyData × List Sl, DG (G.blk scope tab loc) tg1 i.1 i.2.1 i.2.2.1 i.2.2.2 ∧ tGt X.K i.1 i.2.1 i.2.2.1 i.2.2.2 v σ H Q, fun σ H Q => ∃ i : List Sl × Bool × List Sl, DTs (G.blk scope tab loc) ifs1 i.1 i.2.1 i.2.2 ∧ tT X.K i.1 i.2.1 i.2.2 σ H Q, fun σ H Q => ∃ i : List Sl × PyData × List Sl, DE (G.blk scope tab loc) kx i.1 i.2.1 i.2.2 ∧ tE X.K i.1 i.2.1 i.2.2 σ H Q, fun σ H Q => ∃ i : List Sl × PyData × List Sl, DE (G.blk scope tab loc) vx i.1 i.2.1 i.2.2 ∧ tE X.K i.1 i.2.1 i.2.2 σ H Q, hz X ok, hblk, by rw [hvs]; exact hv,
    fun s H C cl fp => PG_ex (p := fun i : List Nat × List Sl × PyData × List Sl => DG (G.blk scope tab loc) tg i.1 i.2.1 i.2.2.1 i.2.2.2) fun i hp => hp _ (okb s H C cl fp),
    fun s H C cl fp => PTs_ex (p := fun i : List Sl × Bool × List Sl => DTs (G.blk scope tab loc) ifs i.1 i.2.1 i.2.2) fun i hp => hp _ (okb s H C cl fp),
    fun s H C cl fp => PI_ex (p := fun i : List Sl × List PyData × List Sl => DI2 (G.blk scope tab loc) tg1 iter1 i.1 i.2.1 i.2.2) fun i hp => hp _ (okb s H C cl fp),
    fun s H C cl fp => PG_ex (p := fun i : List Nat × List Sl × PyData × List Sl => DG (G.blk scope tab loc) tg1 i.1 i.2.1 i.2.2.1 i.2.2.2) fun i hp => hp _ (okb s H C cl fp),
    fun s H C cl fp => PTs_ex (p := fun i : List Sl × Bool × List Sl => DTs (G.blk scope tab loc) ifs1 i.1 i.2.1 i.2.2) fun i hp => hp _ (okb s H C cl fp),
    fun s H C cl fp => PE_ex (p := fun i : List Sl × PyData × List Sl => DE (G.blk scope tab loc) kx i.1 i.2.1 i.2.2) fun i hp => hp _ (okb s H C cl fp),
    fun s H C cl fp => PE_ex (p := fun i : List Sl × PyData × List Sl => DE (G.blk scope tab loc) vx i.1 i.2.1 i.2.2) fun i hp => hp _ (okb s H C cl fp), fun σ H Q ⟨B, hh, k⟩ => ?_⟩
  rw [hvs]
  refine ⟨B, hh, fun J H1 h1 r1 jk D hD => ?_⟩
  have n0 : ¬ OwnA (wipeS S1 vs) (L2.wipe σ vs) D := fun z => h1.free hD (own_wipe1 z)
  -- what holds between the turns
  let In : List β → Hp → Prop := fun zs H => Holds X.K (Bp B D) (wipeS S1 vs) (L2.wipe σ vs) H ∧ Rel (wipeS S1 vs) (L2.wipe σ vs) H1 (wipeS S1 vs) (L2.wipe σ vs) H ∧ ¬ OwnA (wipeS S1 vs) (L2.wipe σ vs) D ∧ ∃ acc, H D = some (.dK acc) ∧ RepK X.K (Av (wipeS S1 vs) (L2.wipe σ vs) (Bp B D)) H acc (ofP (zs.map h))
  refine ⟨fun i m H => m = xs.length - i ∧ i ≤ xs.length ∧ ∃ zs rest, flatO inner (xs.drop i) = some rest ∧ zs ++ rest = all ∧ In zs H,
    ⟨_, rfl, Nat.zero_le _, [], all, by rw [List.drop_zero]; exact he, rfl, h1.wipe.newB hD trivial, Rel.same (upd_keep hD), n0, [], upd_same, repK_nil⟩, ?_⟩
  rintro i m H2 ⟨rfl, hi2, zs, rest, hcm, hzs, hh2, r2, nD, acc, eD, ra⟩
  have keep2 : ∀ a o, H1 a = some o → ¬ OwnA S1 σ a → H2 a = some o := fun a o e n => r2.keep a o e fun z => n ((own_wipe hn).mp z)
  obtain ⟨j1, j2⟩ := jk H2 keep2
  by_cases hlt : i < xs.length
  · have ed : xs.drop i = xs[i] :: xs.drop (i + 1) := List.drop_eq_getElem_cons hlt
    rw [ed] at hcm
    have hx : xs[i] ∈ xs := List.getElem_mem hlt
    obtain ⟨go, yl⟩ := j1 i (f xs[i]) (by rw [List.getElem?_map, List.getElem?_eq_getElem hlt]; rfl)
    obtain ⟨l, hin, hcm⟩ := bnd hcm
    obtain ⟨rest', hc2, hcm⟩ := bnd hcm
    have hcm := Option.some.inj hcm
    refine .inr ⟨go, fun H' => In (zs ++ l) H', fun H' q => ⟨_, by omega, rfl, hlt, zs ++ l, rest', hc2, by rw [List.append_assoc, hcm, hzs], q⟩, fun x H3 hy => ?_⟩
    obtain ⟨ks, rq⟩ := yl x H3 hy
    have hh3 := hh2.same ks
    have r3 := r2.trans (Rel.same (S := wipeS S1 vs) (σ := L2.wipe σ vs) ks)
    have item : Rep X.K (Av (wipeS S1 vs) (L2.wipe σ vs) (Bp B D)) H3 x (f xs[i]) := by
      rcases rq with rq | ⟨pq, rq⟩
      · have cc : ∀ a o, ¬ Av S1 σ B a → H1 a = some o → ¬ Av (wipeS S1 vs) (L2.wipe σ vs) (Bp B D) a := fun a o n e z => by
          rcases z with z | z | z
          · rcases r3.own a z with w | w
            · exact n (.inl ((own_wipe hn).mp w))
            · rw [e] at w; cases w
          · exact n (.inr z)
          · rw [z, hD] at e; cases e
        refine rq.car ⟨fun a xs n q => ?_, fun a xs n q => ?_⟩ <;> (
          obtain ⟨o, e⟩ := (by first | exact rd_some q | exact xt_some q)
          exact ⟨cc a o n e, by first | exact rd_keep (fun o e => ks a o (keep2 a o e fun z => n (.inl z))) q | exact xt_keep (fun o e => ks a o (keep2 a o e fun z => n (.inl z))) q⟩)
      · exact rq.carP (ctup hh3) pq
    have eD3 : H3 D = some (.dK acc) := ks D _ eD
    obtain ⟨hT1, hT2⟩ := hT xs[i] hx
    refine ⟨(ix, wipeS S1 vs, f xs[i], T1 xs[i]), hg xs[i] hx, Bp B D, hh3, item, fun σ2 H4 hh4 r4 u4 => ?_⟩
    have lσ : σ2.length = (L2.wipe σ vs).length := by rw [← hh4.len, ← hh3.len, r4.len]
    have ew : L2.wipe σ2 vs = L2.wipe σ vs := (wipe_eq lσ fun i hi => u4 i fun z => hi (hix i z)).trans wipe_wipe
    refine ⟨ew, ?_⟩
    -- back to between the turns
    have fin : ∀ {zs' : List β} {S3 : List Sl} {σ3 : L2.St} {H5 : Hp} {acc' : List (Key × V)}, wipeS S3 vs = wipeS S1 vs → L2.wipe σ3 vs = L2.wipe σ vs → Holds X.K (Bp B D) S3 σ3 H5 → Rel (wipeS S1 vs) (L2.wipe σ vs) H1 S3 σ3 H5 → ¬ OwnA S3 σ3 D → H5 D = some (.dK acc') → RepK X.K (Av S3 σ3 (Bp B D)) H5 acc' (ofP (zs'.map h)) → In zs' H5 := fun {zs' S3 σ3 H5 acc'} e1 e2 hh5 r5 n5 e5 ra5 => by
      have q1 := hh5.wipe (vs := vs)
      have q2 := r5.wipe (vs := vs) noOwn_wipe
      rw [e1, e2] at q1 q2
      rw [wipeS_wipeS, wipe_wipe] at q2
      refine ⟨q1, q2, fun z => n5 (by rw [← e1, ← e2] at z; exact own_wipe1 z), acc', e5, ra5.car (Car.imp fun a z => z.imp (fun z => by rw [← e1, ← e2] at z; exact own_wipe1 z) id)⟩
    have r34 := r3.trans r4
    have ra4 : RepK X.K (Av (T1 xs[i]) σ2 (Bp B D)) H4 acc (ofP (zs.map h)) := (ra.same' ks).car r4.car
    have n4 := (r4.ownKeep nD eD3)
    rcases hi xs[i] l hx hin with ⟨t1, rfl⟩ | ⟨t1, ix1, ys, step, T2, hix1, hdi, hco, hg1, hT2', htn⟩
    · refine ⟨(T1 xs[i], false, T1 xs[i]), t1, Bp B D, hh4, fun H5 hh5 r5 => tT_ite (fun z => by cases z) fun _ => ?_⟩
      have n5 := r5.ownKeep n4.1 n4.2
      rw [List.append_nil]
      exact fin hT1 ew hh5 (r34.trans r5) n5.1 n5.2 (ra4.car r5.car)
    · refine ⟨(T1 xs[i], true, T1 xs[i]), t1, Bp B D, hh4, fun H5 hh5 r5 => tT_ite (fun _ => ?_) fun z => by cases z⟩
      have n5 := r5.ownKeep n4.1 n4.2
      have r345 := r34.trans r5
      refine ⟨(T1 xs[i], ys.map f1, T1 xs[i]), hdi, Bp B D, hh5, fun J1 H6 hh6 r6 jk1 => ?_⟩
      have n6 := r6.ownKeep n5.1 n5.2
      have r36 := r345.trans r6
      have ra6 : RepK X.K (Av (T1 xs[i]) σ2 (Bp B D)) H6 acc (ofP (zs.map h)) := (ra4.car r5.car).car r6.car
      have nv1 : noOwn (T1 xs[i]) vs1 = true := noOwn_sub hT2 hv
      -- what holds between the inner turns
      let In1 : List β → Hp → Prop := fun zs1 H => Holds X.K (Bp B D) (wipeS (T1 xs[i]) vs1) (L2.wipe σ2 vs1) H ∧ (∀ a o, H6 a = some o → ¬ Av (T1 xs[i]) σ2 (Bp B D) a → H a = some o) ∧ Rel (wipeS S1 vs) (L2.wipe σ vs) H1 (wipeS (T1 xs[i]) vs1) (L2.wipe σ2 vs1) H ∧ ¬ OwnA (wipeS (T1 xs[i]) vs1) (L2.wipe σ2 vs1) D ∧
        ∃ acc, H D = some (.dK acc) ∧ RepK X.K (Av (wipeS (T1 xs[i]) vs1) (L2.wipe σ2 vs1) (Bp B D)) H acc (ofP ((zs ++ zs1).map h))
      refine ⟨fun j m H => m = ys.length - j ∧ j ≤ ys.length ∧ ∃ zs1 rest1, compO step (ys.drop j) = some rest1 ∧ zs1 ++ rest1 = l ∧ In1 zs1 H,
        ⟨_, rfl, Nat.zero_le _, [], l, by rw [List.drop_zero]; exact hco, rfl, hh6.wipe, fun a o e _ => e, r36.wipeR nv1, fun z => n6.1 (own_wipe1 z), acc, n6.2, by rw [List.append_nil]; exact ra6.car (Car.imp fun a z => z.imp own_wipe1 id)⟩, ?_⟩
      rintro j m1 H7 ⟨rfl, hj2, zs1, rest1, hcm1, hzs1, hh7, r7, r17, n7, acc7, e7, ra7⟩
      have keep7 : ∀ a o, H6 a = some o → ¬ Av (T1 xs[i]) σ2 (Bp B D) a → H7 a = some o := r7
      obtain ⟨k1, k2⟩ := jk1 H7 keep7
      by_cases hlt1 : j < ys.length
      · have ed1 : ys.drop j = ys[j] :: ys.drop (j + 1) := List.drop_eq_getElem_cons hlt1
        rw [ed1] at hcm1
        have hy1 : ys[j] ∈ ys := List.getElem_mem hlt1
        obtain ⟨go1, yl1⟩ := k1 j (f1 ys[j]) (by rw [List.getElem?_map, List.getElem?_eq_getElem hlt1]; rfl)
        obtain ⟨oo, hst, hcm1⟩ := bnd hcm1
        obtain ⟨rest2, hc3, hcm1⟩ := bnd hcm1
        have hcm1 := Option.some.inj hcm1
        refine .inr ⟨go1, fun H' => ∃ zs2, zs2 ++ rest2 = l ∧ In1 zs2 H', fun H' ⟨zs2, q1, q2⟩ => ⟨_, by omega, rfl, hlt1, zs2, rest2, hc3, q1, q2⟩, fun x1 H8 hy8 => ?_⟩
        obtain ⟨ks8, rq8⟩ := yl1 x1 H8 hy8
        have hh8 := hh7.same ks8
        have r8 : ∀ a o, H6 a = some o → ¬ Av (T1 xs[i]) σ2 (Bp B D) a → H8 a = some o := fun a o e n => ks8 a o (r7 a o e n)
        have r18 := r17.trans (Rel.same (S := wipeS (T1 xs[i]) vs1) (σ := L2.wipe σ2 vs1) ks8)
        have item8 : Rep X.K (Av (wipeS (T1 xs[i]) vs1) (L2.wipe σ2 vs1) (Bp B D)) H8 x1 (f1 ys[j]) := by
          rcases rq8 with rq | ⟨pq, rq⟩
          · have cc : ∀ a o, ¬ Av (T1 xs[i]) σ2 (Bp B D) a → H6 a = some o → ¬ Av (wipeS (T1 xs[i]) vs1) (L2.wipe σ2 vs1) (Bp B D) a := fun a o n e z => by
              rcases z with z | z
              · exact n (.inl (own_wipe1 z))
              · exact n (.inr z)
            refine rq.car ⟨fun a xs n q => ?_, fun a xs n q => ?_⟩ <;> (
              obtain ⟨o, e⟩ := (by first | exact rd_some q | exact xt_some q)
              exact ⟨cc a o n e, by first | exact rd_keep (fun o e => ks8 a o (keep7 a o e n)) q | exact xt_keep (fun o e => ks8 a o (keep7 a o e n)) q⟩)
          · exact rq.carP (ctup hh8) pq
        have e8 : H8 D = some (.dK acc7) := ks8 D _ e7
        refine ⟨(ix1, wipeS (T1 xs[i]) vs1, f1 ys[j], T2 ys[j]), hg1 ys[j] hy1, Bp B D, hh8, item8, fun σ3 H9 hh9 r9 u9 => ?_⟩
        have lσ3 : σ3.length = (L2.wipe σ2 vs1).length := by rw [← hh9.len, ← hh8.len, r9.len]
        have ew3 : L2.wipe σ3 vs1 = L2.wipe σ2 vs1 := (wipe_eq lσ3 fun i hi => u9 i fun z => hi (hix1 i z)).trans wipe_wipe
        refine ⟨ew3, ?_⟩
        have eT2 := hT2' ys[j] hy1
        have tr := htn ys[j] oo hy1 hst
        have fin1 : ∀ {H5 : Hp}, Holds X.K (Bp B D) (T2 ys[j]) σ3 H5 → Rel (wipeS (T1 xs[i]) vs1) (L2.wipe σ2 vs1) H8 (T2 ys[j]) σ3 H5 → Holds X.K (Bp B D) (wipeS (T1 xs[i]) vs1) (L2.wipe σ2 vs1) H5 ∧ Rel (wipeS (T1 xs[i]) vs1) (L2.wipe σ2 vs1) H8 (wipeS (T1 xs[i]) vs1) (L2.wipe σ2 vs1) H5 ∧
            ¬ OwnA (wipeS (T1 xs[i]) vs1) (L2.wipe σ2 vs1) D ∧ H5 D = some (.dK acc7) ∧ RepK X.K (Av (wipeS (T1 xs[i]) vs1) (L2.wipe σ2 vs1) (Bp B D)) H5 acc7 (ofP ((zs ++ zs1).map h)) := fun {H5} hh5 r5 => by
          have q1 := hh5.wipe (vs := vs1)
          have q2 := r5.wipe (vs := vs1) noOwn_wipe
          rw [eT2, ew3] at q1 q2
          rw [wipeS_wipeS, wipe_wipe] at q2
          have nS := q2.ownKeep n7 e8
          exact ⟨q1, q2, nS.1, nS.2, (ra7.same' ks8).car q2.car⟩
        cases oo with
        | none =>
          refine ⟨(T2 ys[j], false, T2 ys[j]), tr, Bp B D, hh9, fun H10 hh10 r10 => tT_ite (fun z => by cases z) fun _ => ?_⟩
          obtain ⟨f1', f2, f3, f4, f5⟩ := fin1 hh10 (r9.trans r10)
          exact ⟨zs1, by rw [← hzs1, ← hcm1]; rfl, f1', fun a o e n => f2.keep a o (r8 a o e n) fun z => n (.inl (own_wipe1 z)), r18.trans f2, f3, acc7, f4, f5⟩
        | some y =>
          obtain ⟨t1', t2', t3'⟩ := tr
          refine ⟨(T2 ys[j], true, T2 ys[j]), t1', Bp B D, hh9, fun H10 hh10 r10 => tT_ite (fun _ => ?_) fun z => by cases z⟩
          refine ⟨(T2 ys[j], kD (h y).1, T2 ys[j]), t2', Bp B D, hh10, fun v0 H10' hh10' r10' q10' => ⟨(T2 ys[j], (h y).2, T2 ys[j]), t3', Bp B D, hh10', fun v H11 hh11 r11 q11 => ?_⟩⟩
          obtain ⟨f1', f2, f3, f4, f5⟩ := fin1 hh11 (((r9.trans r10).trans r10').trans r11)
          have ez : zs1 ++ [y] ++ rest2 = l := by rw [List.append_assoc, ← hzs1, ← hcm1]; rfl
          have la : acc7.length < sizeLine := by
            have e0 := repK_len ra7
            have e1 := ofP_len ((zs ++ zs1).map h)
            rw [List.length_map] at e1
            have e2 : ((zs ++ zs1) ++ (y :: rest2 ++ rest')).length = all.length := by
              rw [← hzs, ← hcm, ← ez]; simp
            simp only [List.length_append, List.length_cons] at e1 e2
            omega
          refine ⟨acc7, (h y).1, rep_key (q10'.car r11.car), f4, la, zs1 ++ [y], ez, ?_, ?_, (r18.trans f2).updF hD, f3, putK acc7 (h y).1 v, upd_same, ?_⟩
          · exact f1'.updB f3 trivial fun jj s e hl => (r18.trans f2).lentP h1.wipe hD e hl
          · intro a o e n
            have z : a ≠ D := fun z => n (.inr (.inr z))
            rw [upd_ne z]
            exact f2.keep a o (r8 a o e n) fun z => n (.inl (own_wipe1 z))
          · have qv : Rep X.K (Av (wipeS (T1 xs[i]) vs1) (L2.wipe σ2 vs1) (Bp B D)) H11 v (h y).2 := q11.car (Car.imp fun a z => z.imp (fun z => by
              rw [← eT2, ← ew3] at z
              exact own_wipe1 z) id)
            rw [← List.append_assoc, List.map_append]
            show RepK _ _ _ _ (ofP ((zs ++ zs1).map h ++ [h y]))
            rw [ofP_snoc]
            have cD : Car (Av (wipeS (T1 xs[i]) vs1) (L2.wipe σ2 vs1) (Bp B D)) (Av (wipeS (T1 xs[i]) vs1) (L2.wipe σ2 vs1) (Bp B D)) H11 (upd H11 D (.dK (putK acc7 (h y).1 v))) :=
              ⟨fun a xs n q => ⟨n, rd_keep (fun o e => by rw [upd_ne fun z => n (.inr (.inr z))]; exact e) q⟩, fun a xs n q => ⟨n, xt_keep (fun o e => by rw [upd_ne fun z => n (.inr (.inr z))]; exact e) q⟩⟩
            exact (repK_put f5 qv).car cD
      · have e : j = ys.length := by omega
        subst e
        rw [List.drop_length] at hcm1
        have hcm1 := Option.some.inj hcm1
        subst hcm1
        rw [List.append_nil] at hzs1
        subst hzs1
        refine .inl ⟨k2 _ (by rw [List.length_map]; exact Nat.le_refl _), fin (by rw [wipeS_sub hv]; exact hT1) (by rw [wipe_sub hv]; exact ew) hh7 r17 n7 e7 ra7⟩
  · have e : i = xs.length := by omega
    subst e
    rw [List.drop_length] at hcm
    have hcm := Option.some.inj hcm
    subst hcm
    rw [List.append_nil] at hzs
    subst hzs
    obtain ⟨a1, a2, a3⟩ := unwipe h1 (B' := Bp B D) (fun a z => z.imp id fun z => by rw [z]; exact hD) hn (fun _ _ => rfl) rfl hh2 r2
    exact .inl ⟨j2 _ (by rw [List.length_map]; exact Nat.le_refl _), k D H2 (r1.free hD) (fun z => nD (a3 D z)) a1 (r1.trans a2) ⟨acc, eD, ra.car (Car.imp fun a z => z.imp (a3 a) id)⟩⟩
theorem df_dc2 {scope : Scope} {own : List (Str × Nat)} {o : Ob} (h : ∀ X, G.Ok X → DcP2 X kx vx tg iter ifs tg1 iter1 ifs1 scope own vs1 (tF X.K S o S1)) (hs : ∀ env x, foldedSetIterable iter env x = Pure.pure x := by intro _ _; rfl) (hs1 : ∀ env x, foldedSetIterable iter1 env x = Pure.pure x := by intro _ _; rfl) : DF G (.DictComp kx vx [⟨tg, iter, ifs, 0⟩, ⟨tg1, iter1, ifs1, 0⟩] scope pos) S o S1 := fun X ok => pe_dc2 ok.calm ok.nd (h X ok) (hs _) hs1
theorem ds_setDc2 {x : Str} {i : Nat} {scope : Scope} {own : List (Str × Nat)} {o o' : Ob} {p1 : Pos} (hx : G.tab.lookup x = some i) (hl : G.loc.elem x = true) (hk : isLoc G.sc x = true) (h : ∀ X, G.Ok X → DcP2 X kx vx tg iter ifs tg1 iter1 ifs1 scope own vs1 (tF X.K S o S1)) (eo : o = o') (hio : noIo S1 i = true := by rfl)
    (hpl : (p1.line == pos.line) = true := by rfl) (ha : (scope.names.any fun (n, k) => n == x && (k == .local || k == .cell)) = false := by rfl) (hs : ∀ env x, foldedSetIterable iter env x = Pure.pure x := by intro _ _; rfl) (hs1 : ∀ env x, foldedSetIterable iter1 env x = Pure.pure x := by intro _ _; rfl) {spos : Pos} :
    DS G (.Assign [.Name x p1] (.DictComp kx vx [⟨tg, iter, ifs, 0⟩, ⟨tg1, iter1, ifs1, 0⟩] scope pos) spos) S (.nx (S1.set i (.own o'))) := fun X ok => by
  subst eo
  have here : X.env.scope.kind = .function := by rw [ok.sc]; exact (isLoc_of hk).1
  have loc : X.env.scope.names.lookup x = some .local := by rw [ok.sc]; exact (isLoc_of hk).2
  have swap : swapsWith (eD2 kx vx tg iter ifs tg1 iter1 ifs1 scope pos) (some (.Name x p1)) spos.line X.env = pure true := by
    have kb : X.env.blockKind = .function := by
      unfold Env.blockKind
      rw [here]; rfl
    have kn : X.env.kindOf x = some .local := loc
    unfold swapsWith
    simp only [kb, kn, ha, hpl, Expr.pos]
    rfl
  refine PS_weak (ps_setDc2 ok.calm ok.nd (ok.var hx).1 loc swap (h X ok) (hs _) hs1) fun D σ H ⟨B, hh, k⟩ => ?_
  refine ⟨B, hh, fun v H1 hv nv hh1 r1 q1 => ?_⟩
  obtain ⟨a1, a2⟩ := Holds.setP hh r1 hv nv hh1 q1 hio
  exact k _ H1 a1 a2
end
theorem sw_cellD {kx vx : Expr} {gs : List Comprehension} {scope : Scope} {pos py : Pos} {y : Str} {l : Nat} {env : Env} (hy : env.scope.names.lookup y = some .cell) : swapsWith (.DictComp kx vx gs scope pos) (some (.Name y py)) l env = Pure.pure false := by
  have ky : env.kindOf y = some .cell := hy
  unfold swapsWith
  simp only [ky]
  show Pure.pure (env.blockKind == .function && (some NameKind.cell == some NameKind.local) && py.line == pos.line && !(scope.names.any fun (n, k) => n == y && (k == .local || k == .cell))) = _
  rw [show (some NameKind.cell == some NameKind.local) = false from rfl, Bool.and_false]
  rfl
theorem ds_setODC {G : Cxt} {S S1 : List Sl} {x : Str} {i : Nat} {kx vx : Expr} {gs : List Comprehension} {scope : Scope} {pos p1 spos : Pos} {o : Ob} (hx : G.tab.lookup x = some i) (hl : G.loc.elem x = true) (hk : isCell G.sc x = true) (he : DF G (.DictComp kx vx gs scope pos) S o S1) (hio : noIo S1 i = true := by rfl) : DS G (.Assign [.Name x p1] (.DictComp kx vx gs scope pos) spos) S (.nx (S1.set i (.own o))) := fun X ok => by
  obtain ⟨h1, _⟩ := ok.var hx
  obtain ⟨l1, l2⟩ := ok.st (elem_mem hl)
  have hc : X.env.scope.names.lookup x = some .cell := by rw [ok.sc]; exact isCell_of hk
  exact PS_weak (ps_set ok.nd h1 l1 (he X ok) (sw_cellD hc) l2) fun D σ H ⟨B, hh, k⟩ => ⟨B, hh, fun p H1 hp n h1 r1 q1 => by
    obtain ⟨a1, a2⟩ := Holds.setP hh r1 hp n h1 q1 hio
    exact k _ H1 a1 a2⟩
end Pw
namespace Pw
open PySem PySem.Spec L2
def topS (i : Nat) : Stmt := PySem.Challenge.pw_sentintime_k94_briefs_of_texts.main.body.getD i (.Pass ⟨0, 0, 0, 0⟩)
def gSame (fns : List (Str × Nat × Contract)) : Cxt where
  N := ["actual", "due", "k"]
  sc := defScope (topS 12)
  tab := [("actual", 0), ("due", 1), ("k", 2)]
  fnc := fun _ => true
  loc := ["k"]
  blt := ["isinstance", "bool", "int", "str", "tuple", "len", "range"]
  fns := fns
theorem w_same {fns : List (Str × Nat × Contract)} {n : Nat} {d1 d2 : PyData} (hf : d2.depth = 0 ∨ fns = vSame n ∧ d2.depth ≤ n + 1) (h1 : d1.plain = true) (h2 : d2.plain = true) (h3 : pur d2 = true) : DSs (gSame fns) (defBody (topS 12)) [.dat d1, .dat d2, .un] (.ret (.dat (.bool (sameD d1 d2))) [.un, .un, .un]) := by
  have cls : ∀ {T : Str} {tn : String} {i : Nat} {d : PyData} {p1 p2 p3 pos : Pos} {x : Str}, (tn = "bool" ∨ tn = "int" ∨ tn = "str" ∨ tn = "tuple") → bootBuiltins T = some (.type tn) → (gSame fns).blt.elem T = true → (gSame fns).tab.lookup x = some i → ([Sl.dat d1, .dat d2, .un] : List Sl)[i]? = some (.dat d) → DE (gSame fns) (.Call (.Name "isinstance" p1) [.Name x p2, .Name T p3] [] pos) [.dat d1, .dat d2, .un] (.bool (isiD tn d)) [.dat d1, .dat d2, .un] := fun ht hv hb hx hs => de_isi rfl hb hv (de_var hx hs) (kit_isi _ ht)
  have wk : RzLe (.ret (.dat (.bool (sameD d1 d2))) [.dat d1, .dat d2, .un]) (.ret (.dat (.bool (sameD d1 d2))) [.un, .un, .un]) := .ret (.un rfl (.un rfl .refl))
  have eqR : ∀ {q1 q2 q3 : Pos}, d2.depth ≤ 100 → DE (gSame fns) (.Compare (.Name "actual" q1) [.Eq] [.Name "due" q2] q3) [.dat d1, .dat d2, .un] (.bool (PyData.eqv d1 d2)) [.dat d1, .dat d2, .un] := fun hz => de_c (cr_eqD h1 h2 (.inr hz)) (de_var rfl rfl) (de_var rfl rfl)
  cases d2 with
  | list _ => cases h3
  | dict _ => cases h3
  | bool b =>
    refine dss_le (dss_end (ds_if (dt_val (cls (.inl rfl) bo_bool rfl rfl rfl)) (fun _ => dss_end (ds_ret (de_eq (de_and (k2 := isiD "bool" d1 && PyData.eqv d1 (.bool b)) (cls (.inl rfl) bo_bool rfl rfl rfl) (fun z => de_one (de_eq (eqR (Nat.zero_le _)) (by rw [z]; rfl))) (fun z => ⟨by rw [z]; rfl, rfl⟩)) ?_))) (fun z => by cases z))) wk
    cases d1 <;> simp [isiD, PyData.eqv, sameD]
  | int b =>
    refine dss_le (dss_cons (ds_if (dt_val (cls (.inl rfl) bo_bool rfl rfl rfl)) (fun z => by cases z) (fun _ => dss_nil .refl)) (dss_end (ds_if (dt_val (cls (.inr (.inl rfl)) bo_int rfl rfl rfl)) (fun _ => dss_end (ds_ret (de_eq
      (de_and (k2 := isiD "int" d1 && (!isiD "bool" d1 && PyData.eqv d1 (.int b))) (cls (.inr (.inl rfl)) bo_int rfl rfl rfl) (fun z => de_eq (de_and (k2 := !isiD "bool" d1 && PyData.eqv d1 (.int b)) (de_notV (cls (.inl rfl) bo_bool rfl rfl rfl)) (fun z => de_one (de_eq (eqR (Nat.zero_le _)) (by rw [z]; rfl))) (fun z => ⟨by rw [z]; rfl, rfl⟩)) (by rw [z]; rfl)) (fun z => ⟨by rw [z]; rfl, rfl⟩)) ?_))) (fun z => by cases z)))) wk
    cases d1 <;> simp [isiD, PyData.eqv, sameD]
  | str b =>
    refine dss_le (dss_cons (ds_if (dt_val (cls (.inl rfl) bo_bool rfl rfl rfl)) (fun z => by cases z) (fun _ => dss_nil .refl)) (dss_cons (ds_if (dt_val (cls (.inr (.inl rfl)) bo_int rfl rfl rfl)) (fun z => by cases z) (fun _ => dss_nil .refl)) (dss_end (ds_if (dt_val (cls (.inr (.inr (.inl rfl))) bo_str rfl rfl rfl)) (fun _ => dss_end (ds_ret (de_eq
      (de_and (k2 := isiD "str" d1 && PyData.eqv d1 (.str b)) (cls (.inr (.inr (.inl rfl))) bo_str rfl rfl rfl) (fun z => de_one (de_eq (eqR (Nat.zero_le _)) (by rw [z]; rfl))) (fun z => ⟨by rw [z]; rfl, rfl⟩)) ?_))) (fun z => by cases z))))) wk
    cases d1 <;> simp [isiD, PyData.eqv, sameD]
  | none =>
    refine dss_le (dss_cons (ds_if (dt_val (cls (.inl rfl) bo_bool rfl rfl rfl)) (fun z => by cases z) (fun _ => dss_nil .refl)) (dss_cons (ds_if (dt_val (cls (.inr (.inl rfl)) bo_int rfl rfl rfl)) (fun z => by cases z) (fun _ => dss_nil .refl)) (dss_cons (ds_if (dt_val (cls (.inr (.inr (.inl rfl))) bo_str rfl rfl rfl)) (fun z => by cases z) (fun _ => dss_nil .refl))
      (dss_end (ds_if (dt_c cr_isN (de_var rfl rfl) de_non) (fun _ => dss_end (ds_ret (de_eq (de_c cr_isN (de_var rfl rfl) de_non) ?_))) (fun z => by cases z)))))) wk
    cases d1 <;> simp [isNon, sameD]
  | tuple ys =>
    refine dss_le (dss_cons (ds_if (dt_val (cls (.inl rfl) bo_bool rfl rfl rfl)) (fun z => by cases z) (fun _ => dss_nil .refl)) (dss_cons (ds_if (dt_val (cls (.inr (.inl rfl)) bo_int rfl rfl rfl)) (fun z => by cases z) (fun _ => dss_nil .refl)) (dss_cons (ds_if (dt_val (cls (.inr (.inr (.inl rfl))) bo_str rfl rfl rfl)) (fun z => by cases z) (fun _ => dss_nil .refl))
      (dss_cons (ds_if (dt_c cr_isN (de_var rfl rfl) de_non) (fun z => by cases z) (fun _ => dss_nil .refl)) ?_)))) wk
    cases hc : isiD "tuple" d1 with
    | false =>
      rw [sameD_ty hc]
      exact dss_end (ds_if (dt_w (dw_or (k2 := true) (dt_not (dt_val (cls (.inr (.inr (.inr rfl))) bo_tuple rfl rfl rfl))) (fun z => by rw [hc] at z; cases z) (fun _ => ⟨rfl, rfl⟩))) (fun _ => dss_end (ds_ret de_bl)) (fun z => by cases z))
    | true =>
      cases d1 with
      | tuple xs =>
        by_cases hl : xs.length = ys.length
        · refine dss_cons (ds_if (k1 := false) (dt_w (dw_or (dt_not (dt_val (cls (.inr (.inr (.inr rfl))) bo_tuple rfl rfl rfl))) (fun _ => dw_or1 (dt_eq (dt_c cr_neI (de_lenT rfl (de_var rfl rfl)) (de_lenT rfl (de_var rfl rfl))) ?_)) (fun z => by cases z))) (fun z => by cases z) (fun _ => dss_nil .refl)) ?_
          · rw [hl]; simp
          · have hlp := loop_same hl ys.length 0 (by omega)
            rw [List.drop_zero, List.drop_zero, List.drop_zero] at hlp
            rcases hf with hf | ⟨hf, hz⟩
            · cases hf
            · subst hf
              have hz2 : PyData.depthAll ys ≤ n := Nat.le_of_succ_le_succ hz
              cases hq : sameAll xs ys with
              | true =>
                rw [hq] at hlp
                rw [show sameD (.tuple xs) (.tuple ys) = true by unfold sameD; exact hq]
                refine dss_cons (ds_for (slots := fun _ => [.dat (.tuple xs), .dat (.tuple ys), .un]) (tgt := fun _ k => [.dat (.tuple xs), .dat (.tuple ys), .dat (.int k)]) (rt := fun b => .dat (.bool b)) (rs := fun _ => [.dat (.tuple xs), .dat (.tuple ys), .un]) (di_range1 rfl (de_lenT rfl (de_var rfl rfl))) .refl (fun _ _ _ => dg_name (i := 2) rfl rfl) (fun t k out hk hst => ?_) hlp) (dss_end (ds_ret de_bl))
                obtain ⟨a, ha, hst⟩ := bnd hst
                obtain ⟨b, hb, hst⟩ := bnd hst
                have ma := atI_mem ha
                have mb := atI_mem hb
                exact same_turn (c := sameD a b) (de_call (d := .bool (sameD a b)) (C := sameC n) (n := 2) rfl (da_dat (de_ixT (de_var rfl rfl) (de_var rfl rfl) ha) (da_dat (de_ixT (de_var rfl rfl) (de_var rfl rfl) hb) da_nil)) (.dat (.dat .nil)) ⟨a, b, rfl, plainAll_mem h1 ma, plainAll_mem h2 mb, purs_mem h3 mb, Nat.le_trans (depthAll_mem mb) hz2, rfl, rfl⟩ .none) hst
              | false =>
                rw [hq] at hlp
                rw [show sameD (.tuple xs) (.tuple ys) = false by unfold sameD; exact hq]
                refine dss_end (ds_le (ds_for (slots := fun _ => [.dat (.tuple xs), .dat (.tuple ys), .un]) (tgt := fun _ k => [.dat (.tuple xs), .dat (.tuple ys), .dat (.int k)]) (rt := fun b => .dat (.bool b)) (rs := fun _ => [.dat (.tuple xs), .dat (.tuple ys), .un]) (di_range1 rfl (de_lenT rfl (de_var rfl rfl))) .refl (fun _ _ _ => dg_name (i := 2) rfl rfl) (fun t k out hk hst => ?_) hlp) (.ret .refl))
                obtain ⟨a, ha, hst⟩ := bnd hst
                obtain ⟨b, hb, hst⟩ := bnd hst
                have ma := atI_mem ha
                have mb := atI_mem hb
                exact same_turn (c := sameD a b) (de_call (d := .bool (sameD a b)) (C := sameC n) (n := 2) rfl (da_dat (de_ixT (de_var rfl rfl) (de_var rfl rfl) ha) (da_dat (de_ixT (de_var rfl rfl) (de_var rfl rfl) hb) da_nil)) (.dat (.dat .nil)) ⟨a, b, rfl, plainAll_mem h1 ma, plainAll_mem h2 mb, purs_mem h3 mb, Nat.le_trans (depthAll_mem mb) hz2, rfl, rfl⟩ .none) hst
        · refine dss_end (ds_if (k1 := true) (dt_w (dw_or (dt_not (dt_val (cls (.inr (.inr (.inr rfl))) bo_tuple rfl rfl rfl))) (fun _ => dw_or1 (dt_eq (dt_c cr_neI (de_lenT rfl (de_var rfl rfl)) (de_lenT rfl (de_var rfl rfl))) ?_)) (fun z => by cases z))) (fun _ => dss_end (ds_ret (de_eq de_bl ?_))) (fun z => by cases z))
          · simp; omega
          · have : sameD (.tuple xs) (.tuple ys) = false := by
              unfold sameD
              cases q : sameAll xs ys with
              | false => rfl
              | true => exact absurd (sameAll_len q) hl
            rw [this]
      | _ => cases hc
theorem h_same {P : Program} {w : World} {K : PySem.W.Frag} {mg : Str → Option Value} {base : Heap} {f : Addr} {fd : FuncData} (F : Fun K "_law_same" "_law_same" (topS 12) f fd) (hm : mg "_law_same" = some (.ref f)) (hb : Binds K fd ["actual", "due"] []) (z : ∀ x ∈ (gSame []).blt ++ (gSame []).hid, mg x = none) : ∀ n, Has P w K mg base (n + 1) "_law_same" 2 (sameC n)
  | 0 => has_mk F hm hb (fn_ok F (N := ["actual", "due", "k"]) (G := gSame []) ⟨rfl, rfl, rfl, by decide +kernel, rfl, by decide +kernel, by decide +kernel⟩ rfl (by decide +kernel) rfl rfl rfl z (fun x m C e => by cases e) (fun T r T' hC _ _ => by
      obtain ⟨d1, d2, rfl, h1, h2, h3, h4, rfl, rfl⟩ := hC
      exact w_same (n := 0) (.inl (Nat.le_zero.mp h4)) h1 h2 h3) (fun T r T' hC => by
      obtain ⟨d1, d2, rfl, h1, h2, h3, h4, rfl, rfl⟩ := hC
      exact ⟨rfl, by intro s hs; simp at hs; subst hs; rfl⟩))
  | n + 1 => has_mk F hm hb (fn_ok F (N := ["actual", "due", "k"]) (G := gSame (vSame n)) ⟨rfl, rfl, rfl, by decide +kernel, rfl, by decide +kernel, by decide +kernel⟩ rfl (by rfl) rfl rfl rfl z (fun x m C e => by
      have : x = "_law_same" ∧ (m, C) = (2, sameC n) := by
        have := lookup_mem e
        simp only [gSame, vSame, List.append_nil, List.mem_singleton, Prod.mk.injEq] at this
        exact ⟨this.1, by simp [this.2]⟩
      obtain ⟨rfl, h⟩ := this
      cases h
      exact h_same F hm hb z n) (fun T r T' hC _ _ => by
      obtain ⟨d1, d2, rfl, h1, h2, h3, h4, rfl, rfl⟩ := hC
      exact w_same (n := n) (.inr ⟨rfl, h4⟩) h1 h2 h3) (fun T r T' hC => by
      obtain ⟨d1, d2, rfl, h1, h2, h3, h4, rfl, rfl⟩ := hC
      exact ⟨rfl, by intro s hs; simp at hs; subst hs; rfl⟩))
/-! ### _law_draws -/
def m__law_draws (a0 : (List Int)) (a1 : Int) : Option (List Int) :=
  (some ((List.filter (fun (x1 : Int) => true) a0).map (fun (x1 : Int) => (x1 : Int)))).bind fun v2 =>
  ((if (decide ((v2.length : Int) = (0 : Int))) = true then
    ((chkN v2.length).bind fun u4 =>
    some (v2 ++ [(0 : Int)]))
  else
    (some v2) : Option (List Int))).bind fun j5 =>
  (loopF (fun (t6 : ((List Int) × (List Int))) (x7 : Int) =>
  ((chkP (j5.length : Int)).bind fun u8 =>
  (some ((x7 % (j5.length : Int)) : Int)).bind fun v9 =>
  (atI j5 v9).bind fun v10 =>
  ((if (decide ((10 ^ 18 : Int) ≤ v10)) = true then ((atI t6.1 v9).bind fun v11 => some (decide ((0 : Int) < v11))) else some false)).bind fun v12 =>
  ((if v12 = true then
    ((atI t6.1 v9).bind fun v14 =>
    (chkN t6.2.length).bind fun u15 =>
    (atI t6.1 v9).bind fun v16 =>
    (setI t6.1 v9 (v16 / (1000 : Int))).bind fun v17 =>
    some (v17, (t6.2 ++ [(v14 % (1000 : Int))])))
  else
    ((atI j5 v9).bind fun v18 =>
    (some (((((v18 * (48271 : Int)) + (x7 * (69621 : Int))) + (11 : Int)) % (2147483647 : Int)) : Int)).bind fun v19 =>
    (chkM v19 v19).bind fun u20 =>
    (chkN t6.2.length).bind fun u21 =>
    some (t6.1, (t6.2 ++ [((((v19 * v19) + ((3 : Int) * v19)) + x7) % (1000003 : Int))]))) : Option ((List Int) × (List Int)))).bind fun j22 =>
  some (j22.1, j22.2) : Option ((List Int) × (List Int)))) (j5, ([] : List Int)) (rng 0 a1)).bind fun f23 =>
  some (f23.2.reverse : (List Int))
def C__law_draws : Contract := fun T r0 T' => ∃ (a0 : (List Int)) (a1 : Int) (r : (List Int)), m__law_draws a0 a1 = some r ∧ T = [.bor (.lst (List.map Enc.enc (a0 : (List Int)))), .dat (en (a1 : Int))] ∧ r0 = .own (.lst (List.map Enc.enc (r : (List Int)))) ∧ T' = [.un, .un]
def g__law_draws : Cxt where
  N := ["script", "many", "cells", "rest", "draws", "k", "at", "mingled", "cell"]
  sc := defScope (topS 9)
  tab := [("script", 0), ("many", 1), ("cells", 2), ("rest", 3), ("draws", 4), ("k", 5), ("at", 6), ("mingled", 7)]
  loc := ["cells", "rest", "draws", "k", "at", "mingled"]
  fnc := fun _ => true
  blt := ["list", "range", "int", "len"]
  fns := []
  hid := []
  hfns := []
theorem w__law_draws (a0 : (List Int)) (a1 : Int) (r : (List Int)) (hm : m__law_draws a0 a1 = some r) : DSs g__law_draws (defBody (topS 9)) [.bor (.lst (List.map Enc.enc (a0 : (List Int)))), .dat (en (a1 : Int)), .un, .un, .un, .un, .un, .un, .un] (.ret (.own (.lst (List.map Enc.enc (r : (List Int))))) [.un, .un, .un, .un, .un, .un, .un, .un, .un]) := by
  unfold m__law_draws at hm
  obtain ⟨v2, hv2, hm⟩ := bnd hm
  refine dss_cons (S1 := [.bor (.lst (List.map Enc.enc (a0 : (List Int)))), .dat (en (a1 : Int)), .own (.lst (List.map Enc.enc (v2 : (List Int)))), .un, .un, .un, .un, .un, .un]) (ds_eqS (ds_setLc (i := 2) (S1 := [.bor (.lst (List.map Enc.enc (a0 : (List Int)))), .dat (en (a1 : Int)), .un, .un, .un, .un, .un, .un, .un]) rfl rfl (by decide +kernel) (lc_okP (own := [("cell", 8)]) (tab := [("cell", 8)]) (loc := ["cell"]) (f := Enc.enc) (h := Enc.enc) (xs := a0) (cd := fun (x1 : Int) => true) (el := fun (x1 : Int) => (x1 : Int)) (tgt := fun x1 => [.bor (.lst (List.map Enc.enc (a0 : (List Int)))), .dat (en (a1 : Int)), .un, .un, .un, .un, .un, .un, .dat (en (x1 : Int))]) (by decide +kernel) (by decide +kernel) (dz_list (db_var rfl rfl)) rfl (by decide) (fun x1 _ => dg_name (i := 8) rfl rfl) (fun x1 _ => dts_nil) (fun x1 _ _ => de_intI rfl (de_var rfl rfl)) (fun _ => rfl))) (by rw [inj_s hv2]; rfl)) ?_
  obtain ⟨j5, hj5, hm⟩ := bnd hm
  refine dss_cons (S1 := [.bor (.lst (List.map Enc.enc (a0 : (List Int)))), .dat (en (a1 : Int)), .own (.lst (List.map Enc.enc (j5 : (List Int)))), .un, .un, .un, .un, .un, .un]) (ds_if (dt_c (cr_eqT (x := ((v2.length : Int) : Int)) (y := (0 : Int))) (de_lend (i := 2) rfl (.inl rfl) (de_lenLT (xs := (v2 : (List Int))) rfl (db_var rfl rfl)) rfl) (de_int)) (fun z => ?_) (fun z => ?_)) ?_
  · clear hm
    have hm := ite_t hj5 z
    obtain ⟨u4, hu4, hm⟩ := bnd hm
    refine dss_cons (S1 := [.bor (.lst (List.map Enc.enc (a0 : (List Int)))), .dat (en (a1 : Int)), .own (.lst (List.map Enc.enc ((v2 ++ [(0 : Int)]) : (List Int)))), .un, .un, .un, .un, .un, .un]) (ds_expr (de_appendT (i := 2) (xs := (v2 : (List Int))) (y := (0 : Int)) rfl rfl .own (de_int) rfl .own hu4)) ?_
    obtain rfl := inj_r hm
    exact dss_nil (.eq (.eq (.eq (.eq (.eq (.eq (.eq (.eq (.eq .nil)))))))))
  · clear hm
    have hm := ite_f hj5 z
    obtain rfl := inj_r hm
    exact dss_nil (.eq (.eq (.eq (.eq (.eq (.eq (.eq (.eq (.eq .nil)))))))))
  refine dss_cons (S1 := [.bor (.lst (List.map Enc.enc (a0 : (List Int)))), .dat (en (a1 : Int)), .own (.lst (List.map Enc.enc (j5 : (List Int)))), .own (.lst (List.map Enc.enc (j5 : (List Int)))), .un, .un, .un, .un, .un]) (ds_setO (i := 3) (S1 := [.bor (.lst (List.map Enc.enc (a0 : (List Int)))), .dat (en (a1 : Int)), .own (.lst (List.map Enc.enc (j5 : (List Int)))), .un, .un, .un, .un, .un, .un]) rfl rfl (df_lend (i := 2) rfl (.inl rfl) (df_listL rfl (db_var rfl rfl)) rfl)) ?_
  refine dss_cons (S1 := [.bor (.lst (List.map Enc.enc (a0 : (List Int)))), .dat (en (a1 : Int)), .own (.lst (List.map Enc.enc (j5 : (List Int)))), .own (.lst (List.map Enc.enc (j5 : (List Int)))), .own (.lst (List.map Enc.enc (([] : List Int) : (List Int)))), .un, .un, .un, .un]) (ds_setO (i := 4) (S1 := [.bor (.lst (List.map Enc.enc (a0 : (List Int)))), .dat (en (a1 : Int)), .own (.lst (List.map Enc.enc (j5 : (List Int)))), .own (.lst (List.map Enc.enc (j5 : (List Int)))), .un, .un, .un, .un, .un]) rfl rfl (df_lst (dd_nil))) ?_
  obtain ⟨f23, hf23, hm⟩ := bnd hm
  refine dss_cons (S1 := [.bor (.lst (List.map Enc.enc (a0 : (List Int)))), .dat (en (a1 : Int)), .own (.lst (List.map Enc.enc (j5 : (List Int)))), .own (.lst (List.map Enc.enc (f23.1 : (List Int)))), .own (.lst (List.map Enc.enc (f23.2 : (List Int)))), .un, .un, .un, .un]) (ds_forF (t0 := ((j5, ([] : List Int)) : ((List Int) × (List Int)))) (f := Enc.enc) (fun (t6 : ((List Int) × (List Int))) => [.bor (.lst (List.map Enc.enc (a0 : (List Int)))), .dat (en (a1 : Int)), .own (.lst (List.map Enc.enc (j5 : (List Int)))), .own (.lst (List.map Enc.enc (t6.1 : (List Int)))), .own (.lst (List.map Enc.enc (t6.2 : (List Int)))), .un, .un, .un, .un]) (fun (t6 : ((List Int) × (List Int))) (x7 : Int) => [.bor (.lst (List.map Enc.enc (a0 : (List Int)))), .dat (en (a1 : Int)), .own (.lst (List.map Enc.enc (j5 : (List Int)))), .own (.lst (List.map Enc.enc (t6.1 : (List Int)))), .own (.lst (List.map Enc.enc (t6.2 : (List Int)))), .dat (en (x7 : Int)), .un, .un, .un]) (di_range1 rfl (de_var rfl rfl)) (show Wk [.bor (.lst (List.map Enc.enc (a0 : (List Int)))), .dat (en (a1 : Int)), .own (.lst (List.map Enc.enc (j5 : (List Int)))), .own (.lst (List.map Enc.enc (j5 : (List Int)))), .own (.lst (List.map Enc.enc (([] : List Int) : (List Int)))), .un, .un, .un, .un] _ from (.eq (.eq (.eq (.eq (.eq (.eq (.eq (.eq (.eq .nil)))))))))) (fun t6 x7 _ => dg_name (i := 5) rfl rfl) (fun t6 x7 t' _ hm => ?_) hf23) ?_
  · obtain ⟨u8, hu8, hm⟩ := bnd hm
    obtain ⟨v9, hv9, hm⟩ := bnd hm
    refine dss_cons (S1 := [.bor (.lst (List.map Enc.enc (a0 : (List Int)))), .dat (en (a1 : Int)), .own (.lst (List.map Enc.enc (j5 : (List Int)))), .own (.lst (List.map Enc.enc (t6.1 : (List Int)))), .own (.lst (List.map Enc.enc (t6.2 : (List Int)))), .dat (en (x7 : Int)), .dat (en (v9 : Int)), .un, .un]) (ds_set (i := 6) (S1 := [.bor (.lst (List.map Enc.enc (a0 : (List Int)))), .dat (en (a1 : Int)), .own (.lst (List.map Enc.enc (j5 : (List Int)))), .own (.lst (List.map Enc.enc (t6.1 : (List Int)))), .own (.lst (List.map Enc.enc (t6.2 : (List Int)))), .dat (en (x7 : Int)), .un, .un, .un]) rfl rfl (de_eq (d := en ((x7 % (j5.length : Int)) : Int)) (d1 := en (v9 : Int)) (de_mod (de_var rfl rfl) (de_lend (i := 2) rfl (.inl rfl) (de_lenLT (xs := (j5 : (List Int))) rfl (db_var rfl rfl)) rfl) (chkP_ok hu8)) (by rw [inj_s hv9]))) ?_
    obtain ⟨v10, hv10, hm⟩ := bnd hm
    obtain ⟨v12, hv12, hm⟩ := bnd hm
    obtain ⟨j22, hj22, hm⟩ := bnd hm
    refine dss_cons (S1 := [.bor (.lst (List.map Enc.enc (a0 : (List Int)))), .dat (en (a1 : Int)), .own (.lst (List.map Enc.enc (j5 : (List Int)))), .own (.lst (List.map Enc.enc (j22.1 : (List Int)))), .own (.lst (List.map Enc.enc (j22.2 : (List Int)))), .dat (en (x7 : Int)), .dat (en (v9 : Int)), .un, .un]) (ds_if (dt_w (dw_and (k2 := v12) (S2 := [.bor (.lst (List.map Enc.enc (a0 : (List Int)))), .dat (en (a1 : Int)), .own (.lst (List.map Enc.enc (j5 : (List Int)))), .own (.lst (List.map Enc.enc (t6.1 : (List Int)))), .own (.lst (List.map Enc.enc (t6.2 : (List Int)))), .dat (en (x7 : Int)), .dat (en (v9 : Int)), .un, .un]) (dt_c (cr_ge) (de_lend (i := 2) rfl (.inl rfl) (de_ixLT (xs := (j5 : (List Int))) (db_var rfl rfl) (de_var rfl rfl) hv10) rfl) (de_pow de_int de_int ⟨by decide, by decide, by decide⟩)) (fun z => by have hm := ite_t hv12 z; obtain ⟨v11, hv11, hm⟩ := bnd hm; obtain rfl := inj_r hm; exact (dw_and1 (dt_c (cr_gt) (de_lend (i := 3) rfl (.inl rfl) (de_ixLT (xs := (t6.1 : (List Int))) (db_var rfl rfl) (de_var rfl rfl) hv11) rfl) (de_int)))) (fun z => by have hm := ite_f hv12 z; obtain rfl := inj_r hm; exact ⟨rfl, rfl⟩))) (fun z => ?_) (fun z => ?_)) ?_
    · clear hm
      have hm := ite_t hj22 z
      obtain ⟨v14, hv14, hm⟩ := bnd hm
      obtain ⟨u15, hu15, hm⟩ := bnd hm
      refine dss_cons (S1 := [.bor (.lst (List.map Enc.enc (a0 : (List Int)))), .dat (en (a1 : Int)), .own (.lst (List.map Enc.enc (j5 : (List Int)))), .own (.lst (List.map Enc.enc (t6.1 : (List Int)))), .own (.lst (List.map Enc.enc ((t6.2 ++ [(v14 % (1000 : Int))]) : (List Int)))), .dat (en (x7 : Int)), .dat (en (v9 : Int)), .un, .un]) (ds_expr (de_appendT (i := 4) (xs := (t6.2 : (List Int))) (y := (v14 % (1000 : Int))) rfl rfl .own (de_mod (de_intI rfl (de_lend (i := 3) rfl (.inl rfl) (de_ixLT (xs := (t6.1 : (List Int))) (db_var rfl rfl) (de_var rfl rfl) hv14) rfl)) (de_int) (by decide +kernel)) rfl .own hu15)) ?_
      obtain ⟨v16, hv16, hm⟩ := bnd hm
      obtain ⟨v17, hv17, hm⟩ := bnd hm
      refine dss_cons (S1 := [.bor (.lst (List.map Enc.enc (a0 : (List Int)))), .dat (en (a1 : Int)), .own (.lst (List.map Enc.enc (j5 : (List Int)))), .own (.lst (List.map Enc.enc (v17 : (List Int)))), .own (.lst (List.map Enc.enc ((t6.2 ++ [(v14 % (1000 : Int))]) : (List Int)))), .dat (en (x7 : Int)), .dat (en (v9 : Int)), .un, .un]) (ds_putT (i := 3) (xs := (t6.1 : (List Int))) (y := (v16 / (1000 : Int))) rfl (de_fdiv (de_lend (i := 3) rfl (.inl rfl) (de_ixLT (xs := (t6.1 : (List Int))) (db_var rfl rfl) (de_var rfl rfl) hv16) rfl) (de_int) ⟨by decide, by decide⟩) rfl .own (de_var rfl rfl) rfl .own hv17) ?_
      obtain rfl := inj_r hm
      exact dss_nil (.eq (.eq (.eq (.eq (.eq (.eq (.eq (.eq (.eq .nil)))))))))
    · clear hm
      have hm := ite_f hj22 z
      obtain ⟨v18, hv18, hm⟩ := bnd hm
      obtain ⟨v19, hv19, hm⟩ := bnd hm
      refine dss_cons (S1 := [.bor (.lst (List.map Enc.enc (a0 : (List Int)))), .dat (en (a1 : Int)), .own (.lst (List.map Enc.enc (j5 : (List Int)))), .own (.lst (List.map Enc.enc (t6.1 : (List Int)))), .own (.lst (List.map Enc.enc (t6.2 : (List Int)))), .dat (en (x7 : Int)), .dat (en (v9 : Int)), .dat (en (v19 : Int)), .un]) (ds_set (i := 7) (S1 := [.bor (.lst (List.map Enc.enc (a0 : (List Int)))), .dat (en (a1 : Int)), .own (.lst (List.map Enc.enc (j5 : (List Int)))), .own (.lst (List.map Enc.enc (t6.1 : (List Int)))), .own (.lst (List.map Enc.enc (t6.2 : (List Int)))), .dat (en (x7 : Int)), .dat (en (v9 : Int)), .un, .un]) rfl rfl (de_eq (d := en (((((v18 * (48271 : Int)) + (x7 * (69621 : Int))) + (11 : Int)) % (2147483647 : Int)) : Int)) (d1 := en (v19 : Int)) (de_mod (de_intI rfl (de_add (de_add (de_mul (de_lend (i := 2) rfl (.inl rfl) (de_ixLT (xs := (j5 : (List Int))) (db_var rfl rfl) (de_var rfl rfl) hv18) rfl) (de_int) (.inr ⟨by decide, by decide⟩)) (de_mul (de_var rfl rfl) (de_int) (.inr ⟨by decide, by decide⟩))) (de_int))) (de_int) (by decide +kernel)) (by rw [inj_s hv19]))) ?_
      obtain ⟨u20, hu20, hm⟩ := bnd hm
      obtain ⟨u21, hu21, hm⟩ := bnd hm
      refine dss_cons (S1 := [.bor (.lst (List.map Enc.enc (a0 : (List Int)))), .dat (en (a1 : Int)), .own (.lst (List.map Enc.enc (j5 : (List Int)))), .own (.lst (List.map Enc.enc (t6.1 : (List Int)))), .own (.lst (List.map Enc.enc ((t6.2 ++ [((((v19 * v19) + ((3 : Int) * v19)) + x7) % (1000003 : Int))]) : (List Int)))), .dat (en (x7 : Int)), .dat (en (v9 : Int)), .dat (en (v19 : Int)), .un]) (ds_expr (de_appendT (i := 4) (xs := (t6.2 : (List Int))) (y := ((((v19 * v19) + ((3 : Int) * v19)) + x7) % (1000003 : Int))) rfl rfl .own (de_mod (de_intI rfl (de_add (de_add (de_mul (de_var rfl rfl) (de_var rfl rfl) (chkM_ok hu20)) (de_mul (de_int) (de_var rfl rfl) (.inl ⟨by decide, by decide⟩))) (de_var rfl rfl))) (de_int) (by decide +kernel)) rfl .own hu21)) ?_
      obtain rfl := inj_r hm
      exact dss_nil (.eq (.eq (.eq (.eq (.eq (.eq (.eq (.un rfl (.eq .nil)))))))))
    obtain rfl := inj_r hm
    exact dss_nil (.eq (.eq (.eq (.eq (.eq (.un rfl (.un rfl (.eq (.eq .nil)))))))))
  refine dss_cons (S1 := [.bor (.lst (List.map Enc.enc (a0 : (List Int)))), .dat (en (a1 : Int)), .own (.lst (List.map Enc.enc (j5 : (List Int)))), .own (.lst (List.map Enc.enc (f23.1 : (List Int)))), .own (.lst (List.map Enc.enc (f23.2.reverse : (List Int)))), .un, .un, .un, .un]) (ds_expr (de_reverseT (i := 4) (xs := (f23.2 : (List Int))) rfl rfl .own)) ?_
  obtain rfl := inj_r hm
  exact dss_end (ds_le (S := _) (ds_retO rfl rfl) (.ret (.un rfl (.un rfl (.un rfl (.un rfl (.un rfl (.eq (.eq (.eq (.eq .nil)))))))))))
theorem h__law_draws {P : Program} {w : World} {K : PySem.W.Frag} {mg : Str → Option Value} {base : Heap} {k : Nat} {f : Addr} {fd : FuncData} (F : Fun K "_law_draws" "_law_draws" (topS 9) f fd) (hm : mg "_law_draws" = some (.ref f)) (hb : Binds K fd ["script", "many"] []) (z : ∀ x ∈ g__law_draws.blt ++ g__law_draws.hid, mg x = none)  : Has P w K mg base (k + 1) "_law_draws" 2 C__law_draws :=
  has_mk F hm hb (fn_ok F (N := ["script", "many", "cells", "rest", "draws", "k", "at", "mingled", "cell"]) (G := g__law_draws) ⟨rfl, rfl, rfl, by decide +kernel, rfl, by decide +kernel, by decide +kernel⟩ rfl (by decide +kernel) rfl rfl rfl z (fun x m C e => by cases e) (fun T r0 T' hC _ _ => by
      obtain ⟨a0, a1, r, hm, rfl, rfl, rfl⟩ := hC
      exact w__law_draws _ _ _ hm) (fun T r0 T' hC => by
      obtain ⟨a0, a1, r, hm, rfl, rfl, rfl⟩ := hC
      exact ⟨purs_map _, fun s hs => by cases hs with | head => exact rfl | tail _ hs => exact (by cases hs with | head => exact rfl | tail _ hs => exact (by cases hs))⟩))
/-! ### _law_take -/
def m__law_take (a0 : (List Int)) (a1 : Int) : Option (Int × (List Int)) :=
  if (decide ((a0.length : Int) = (0 : Int))) = true then
    (some (((0 : Int), a0) : (Int × (List Int))))
  else
    ((popL a0).bind fun v2 =>
    (chkP a1).bind fun u3 =>
    some (((v2.1 % a1), v2.2) : (Int × (List Int))))
def C__law_take : Contract := fun T r0 T' => ∃ (a0 : (List Int)) (a1 : Int) (r : (Int × (List Int))), m__law_take a0 a1 = some r ∧ T = [.io (.lst (List.map Enc.enc (a0 : (List Int)))), .dat (en (a1 : Int))] ∧ r0 = .dat (en (r.1 : Int)) ∧ T' = [.io (.lst (List.map Enc.enc (r.2 : (List Int)))), .un]
def g__law_take : Cxt where
  N := ["draws", "many"]
  sc := defScope (topS 10)
  tab := [("draws", 0), ("many", 1)]
  loc := []
  fnc := fun _ => true
  blt := ["len", "int"]
  fns := []
  hid := []
  hfns := []
theorem w__law_take (a0 : (List Int)) (a1 : Int) (r : (Int × (List Int))) (hm : m__law_take a0 a1 = some r) : DSs g__law_take (defBody (topS 10)) [.io (.lst (List.map Enc.enc (a0 : (List Int)))), .dat (en (a1 : Int))] (.ret (.dat (en (r.1 : Int))) [.io (.lst (List.map Enc.enc (r.2 : (List Int)))), .un]) := by
  unfold m__law_take at hm
  by_cases k1 : (decide ((a0.length : Int) = (0 : Int))) = true
  · have hm := ite_t hm k1
    refine dss_end (ds_if (dt_eq (dt_c (cr_eqT (x := ((a0.length : Int) : Int)) (y := (0 : Int))) (de_lend (i := 0) rfl (.inr rfl) (de_lenLT (xs := (a0 : (List Int))) rfl (db_var rfl rfl)) rfl) (de_int)) k1) (fun _ => ?_) (fun z => by cases z)) rfl
    obtain rfl := inj_r hm
    exact dss_end (ds_le (S := _) (ds_ret (de_int)) (.ret (.eq (.un rfl .nil))))
  have hm := ite_f hm (ne_t k1)
  refine dss_cons (ds_if (dt_eq (dt_c (cr_eqT (x := ((a0.length : Int) : Int)) (y := (0 : Int))) (de_lend (i := 0) rfl (.inr rfl) (de_lenLT (xs := (a0 : (List Int))) rfl (db_var rfl rfl)) rfl) (de_int)) (ne_t k1)) (fun z => by cases z) (fun _ => dss_nil .refl)) ?_
  obtain ⟨v2, hv2, hm⟩ := bnd hm
  obtain ⟨u3, hu3, hm⟩ := bnd hm
  obtain rfl := inj_r hm
  exact dss_end (ds_le (S := _) (ds_ret (de_mod (de_intI rfl (de_popT (i := 0) (xs := (a0 : (List Int))) rfl rfl .io hv2)) (de_var rfl rfl) (chkP_ok hu3))) (.ret (.eq (.un rfl .nil))))
theorem h__law_take {P : Program} {w : World} {K : PySem.W.Frag} {mg : Str → Option Value} {base : Heap} {k : Nat} {f : Addr} {fd : FuncData} (F : Fun K "_law_take" "_law_take" (topS 10) f fd) (hm : mg "_law_take" = some (.ref f)) (hb : Binds K fd ["draws", "many"] []) (z : ∀ x ∈ g__law_take.blt ++ g__law_take.hid, mg x = none)  : Has P w K mg base (k + 1) "_law_take" 2 C__law_take :=
  has_mk F hm hb (fn_ok F (N := ["draws", "many"]) (G := g__law_take) ⟨rfl, rfl, rfl, by decide +kernel, rfl, by decide +kernel, by decide +kernel⟩ rfl (by decide +kernel) rfl rfl rfl z (fun x m C e => by cases e) (fun T r0 T' hC _ _ => by
      obtain ⟨a0, a1, r, hm, rfl, rfl, rfl⟩ := hC
      exact w__law_take _ _ _ hm) (fun T r0 T' hC => by
      obtain ⟨a0, a1, r, hm, rfl, rfl, rfl⟩ := hC
      exact ⟨Enc.pure _, fun s hs => by cases hs with | head => exact (purs_map _) | tail _ hs => exact (by cases hs with | head => exact rfl | tail _ hs => exact (by cases hs))⟩))
/-! ### _law_words -/
def m__law_words : Option (List Str) :=
  some (([("all" : Str), ("at" : Str), ("fire" : Str), ("four" : Str), ("is" : Str), ("once" : Str), ("the" : Str), ("tide" : Str), ("up" : Str)] : List Str) : (List Str))
def C__law_words : Contract := fun T r0 T' => ∃ (r : (List Str)), m__law_words = some r ∧ T = [] ∧ r0 = .own (.lst (List.map Enc.enc (r : (List Str)))) ∧ T' = []
def g__law_words : Cxt where
  N := []
  sc := defScope (topS 13)
  tab := []
  loc := []
  fnc := fun _ => true
  blt := []
  fns := []
  hid := []
  hfns := []
theorem w__law_words (r : (List Str)) (hm : m__law_words = some r) : DSs g__law_words (defBody (topS 13)) [] (.ret (.own (.lst (List.map Enc.enc (r : (List Str))))) []) := by
  unfold m__law_words at hm
  obtain rfl := inj_r hm
  exact dss_end (ds_le (S := _) (ds_retF (df_lst (dd_cons (de_str) (dd_cons (de_str) (dd_cons (de_str) (dd_cons (de_str) (dd_cons (de_str) (dd_cons (de_str) (dd_cons (de_str) (dd_cons (de_str) (dd_cons (de_str) (dd_nil)))))))))))) (.ret .nil))
theorem h__law_words {P : Program} {w : World} {K : PySem.W.Frag} {mg : Str → Option Value} {base : Heap} {k : Nat} {f : Addr} {fd : FuncData} (F : Fun K "_law_words" "_law_words" (topS 13) f fd) (hm : mg "_law_words" = some (.ref f)) (hb : Binds K fd [] []) (z : ∀ x ∈ g__law_words.blt ++ g__law_words.hid, mg x = none)  : Has P w K mg base (k + 1) "_law_words" 0 C__law_words :=
  has_mk F hm hb (fn_ok F (N := []) (G := g__law_words) ⟨rfl, rfl, rfl, by decide +kernel, rfl, by decide +kernel, by decide +kernel⟩ rfl (by decide +kernel) rfl rfl rfl z (fun x m C e => by cases e) (fun T r0 T' hC _ _ => by
      obtain ⟨r, hm, rfl, rfl, rfl⟩ := hC
      exact w__law_words _ hm) (fun T r0 T' hC => by
      obtain ⟨r, hm, rfl, rfl, rfl⟩ := hC
      exact ⟨purs_map _, fun s hs => by cases hs⟩))
/-! ### _law_text -/
def m__law_text (a0 : (List Int)) (a1 : Int) : Option ((List (List Str)) × (List Int)) :=
  (loopF (fun (t1 : ((List Int) × (List (List Str)))) (x2 : Int) =>
  ((m__law_take t1.1 (7 : Int)).bind fun r3 =>
  (chkI (r3.1 - 0)).bind fun u4 =>
  (compM (fun (t9 : (List Int)) (x5 : Int) => (((m__law_words ).bind fun r10 => (m__law_take t9 (9 : Int)).bind fun r11 => (atI r10 r11.1).bind fun v12 => some (some v12, r11.2)) : Option (Option Str × (List Int)))) r3.2 (rng 0 r3.1)).bind fun l13 =>
  ((if (decide ((0 : Int) < x2)) = true then ((m__law_take l13.2 (5 : Int)).bind fun r14 => some ((decide (r14.1 = (0 : Int))), r14.2)) else some (false, l13.2))).bind fun v15 =>
  ((if v15.1 = true then
    ((m__law_take v15.2 x2).bind fun r17 =>
    (atI t1.2 r17.1).bind fun v18 =>
    some (r17.2, v18))
  else
    (some (v15.2, l13.1)) : Option ((List Int) × (List Str)))).bind fun j19 =>
  (chkN t1.2.length).bind fun u20 =>
  some (j19.1, (t1.2 ++ [j19.2])) : Option ((List Int) × (List (List Str))))) (a0, ([] : List (List Str))) (rng 0 a1)).bind fun f21 =>
  some ((f21.2, f21.1) : ((List (List Str)) × (List Int)))
def C__law_text : Contract := fun T r0 T' => ∃ (a0 : (List Int)) (a1 : Int) (r : ((List (List Str)) × (List Int))), m__law_text a0 a1 = some r ∧ T = [.io (.lst (List.map Enc.enc (a0 : (List Int)))), .dat (en (a1 : Int))] ∧ r0 = .dat (en (r.1 : (List (List Str)))) ∧ T' = [.io (.lst (List.map Enc.enc (r.2 : (List Int)))), .un]
def g__law_text : Cxt where
  N := ["draws", "many", "found", "k", "row", "j"]
  sc := defScope (topS 14)
  tab := [("draws", 0), ("many", 1), ("found", 2), ("k", 3), ("row", 4)]
  loc := ["found", "k", "row"]
  fnc := fun _ => true
  blt := ["range", "tuple"]
  fns := [("_law_take", 2, C__law_take)]
  hid := []
  hfns := [("_law_words", 0, C__law_words)]
theorem w__law_text (a0 : (List Int)) (a1 : Int) (r : ((List (List Str)) × (List Int))) (hm : m__law_text a0 a1 = some r) : DSs g__law_text (defBody (topS 14)) [.io (.lst (List.map Enc.enc (a0 : (List Int)))), .dat (en (a1 : Int)), .un, .un, .un, .un] (.ret (.dat (en (r.1 : (List (List Str))))) [.io (.lst (List.map Enc.enc (r.2 : (List Int)))), .un, .un, .un, .un, .un]) := by
  unfold m__law_text at hm
  refine dss_cons (S1 := [.io (.lst (List.map Enc.enc (a0 : (List Int)))), .dat (en (a1 : Int)), .own (.lst (List.map Enc.enc (([] : List (List Str)) : (List (List Str))))), .un, .un, .un]) (ds_setO (i := 2) (S1 := [.io (.lst (List.map Enc.enc (a0 : (List Int)))), .dat (en (a1 : Int)), .un, .un, .un, .un]) rfl rfl (df_lst (dd_nil))) ?_
  obtain ⟨f21, hf21, hm⟩ := bnd hm
  refine dss_cons (S1 := [.io (.lst (List.map Enc.enc (f21.1 : (List Int)))), .dat (en (a1 : Int)), .own (.lst (List.map Enc.enc (f21.2 : (List (List Str))))), .un, .un, .un]) (ds_forF (t0 := ((a0, ([] : List (List Str))) : ((List Int) × (List (List Str))))) (f := Enc.enc) (fun (t1 : ((List Int) × (List (List Str)))) => [.io (.lst (List.map Enc.enc (t1.1 : (List Int)))), .dat (en (a1 : Int)), .own (.lst (List.map Enc.enc (t1.2 : (List (List Str))))), .un, .un, .un]) (fun (t1 : ((List Int) × (List (List Str)))) (x2 : Int) => [.io (.lst (List.map Enc.enc (t1.1 : (List Int)))), .dat (en (a1 : Int)), .own (.lst (List.map Enc.enc (t1.2 : (List (List Str))))), .dat (en (x2 : Int)), .un, .un]) (di_range1 rfl (de_var rfl rfl)) (show Wk [.io (.lst (List.map Enc.enc (a0 : (List Int)))), .dat (en (a1 : Int)), .own (.lst (List.map Enc.enc (([] : List (List Str)) : (List (List Str))))), .un, .un, .un] _ from (.eq (.eq (.eq (.eq (.eq (.eq .nil))))))) (fun t1 x2 _ => dg_name (i := 3) rfl rfl) (fun t1 x2 t' _ hm => ?_) hf21) ?_
  · obtain ⟨r3, hr3, hm⟩ := bnd hm
    obtain ⟨u4, hu4, hm⟩ := bnd hm
    obtain ⟨l13, hl13, hm⟩ := bnd hm
    refine dss_cons (S1 := [.io (.lst (List.map Enc.enc (l13.2 : (List Int)))), .dat (en (a1 : Int)), .own (.lst (List.map Enc.enc (t1.2 : (List (List Str))))), .dat (en (x2 : Int)), .dat (en (l13.1 : (List Str))), .un]) (ds_set (i := 4) (S1 := [.io (.lst (List.map Enc.enc (l13.2 : (List Int)))), .dat (en (a1 : Int)), .own (.lst (List.map Enc.enc (t1.2 : (List (List Str))))), .dat (en (x2 : Int)), .un, .un]) rfl rfl (d := en (l13.1 : (List Str))) (de_tupL (ds := List.map Enc.enc (l13.1 : (List Str))) rfl (db_new (df_lc (lc_ok (own := [("j", 5)]) (tab := [("draws", 0), ("j", 5)]) (loc := ["j"]) (f := Enc.enc) (h := Enc.enc) (xs := (rng 0 r3.1)) (ys := l13.1) (t0 := r3.2) (t1 := l13.2) (slots := fun t9 => [.io (.lst (List.map Enc.enc (t9 : (List Int)))), .dat (en (a1 : Int)), .own (.lst (List.map Enc.enc (t1.2 : (List (List Str))))), .dat (en (x2 : Int)), .un, .un]) (tgt := fun t9 x5 => [.io (.lst (List.map Enc.enc (t9 : (List Int)))), .dat (en (a1 : Int)), .own (.lst (List.map Enc.enc (t1.2 : (List (List Str))))), .dat (en (x2 : Int)), .un, .dat (en (x5 : Int))]) (by decide +kernel) (by decide +kernel) (dz_of (di_range1 rfl (de_call (S1 := [.io (.lst (List.map Enc.enc (t1.1 : (List Int)))), .dat (en (a1 : Int)), .own (.lst (List.map Enc.enc (t1.2 : (List (List Str))))), .dat (en (x2 : Int)), .un, .un]) (S2 := [.io (.lst (List.map Enc.enc (r3.2 : (List Int)))), .dat (en (a1 : Int)), .own (.lst (List.map Enc.enc (t1.2 : (List (List Str))))), .dat (en (x2 : Int)), .un, .un]) (d := (en (r3.1 : Int))) (C := C__law_take) (n := 2) rfl (da_slot (i := 0) rfl rfl rfl (da_dat (de_int) (da_nil))) (.io rfl (.inr rfl) rfl (.dat .nil)) ⟨_, _, r3, hr3, rfl, rfl, rfl⟩ (beh rfl rfl rfl))) (chkI_rng hu4)) rfl (fun _ i hi => by have hi : i ∈ [5] := hi; exact (by cases hi with | head => rfl | tail _ hi => exact (by cases hi))) (fun _ => rfl) (by decide) (fun t9 x5 _ => dg_name (i := 5) rfl rfl) (fun t9 x5 o t' _ hm => (by have hm := hm; obtain ⟨r10, hr10, hm⟩ := bnd hm; obtain ⟨r11, hr11, hm⟩ := bnd hm; obtain ⟨v12, hv12, hm⟩ := bnd hm; obtain ⟨rfl, rfl⟩ := inj_p hm; exact ⟨_, _, dts_nil, de_ixLT (xs := (r10 : (List Str))) (db_new (df_call0 (o := (.lst (List.map Enc.enc (r10 : (List Str))))) (C := C__law_words) (n := 0) rfl (da_nil) .nil ⟨r10, hr10, rfl, rfl, rfl⟩ .none)) (de_call (S1 := [.io (.lst (List.map Enc.enc (t9 : (List Int)))), .dat (en (a1 : Int)), .own (.lst (List.map Enc.enc (t1.2 : (List (List Str))))), .dat (en (x2 : Int)), .un, .dat (en (x5 : Int))]) (S2 := [.io (.lst (List.map Enc.enc (r11.2 : (List Int)))), .dat (en (a1 : Int)), .own (.lst (List.map Enc.enc (t1.2 : (List (List Str))))), .dat (en (x2 : Int)), .un, .dat (en (x5 : Int))]) (d := (en (r11.1 : Int))) (C := C__law_take) (n := 2) rfl (da_slot (i := 0) rfl rfl rfl (da_dat (de_int) (da_nil))) (.io rfl (.inr rfl) rfl (.dat .nil)) ⟨_, _, r11, hr11, rfl, rfl, rfl⟩ (beh rfl rfl rfl)) hv12, rfl⟩)) hl13))))) ?_
    obtain ⟨v15, hv15, hm⟩ := bnd hm
    obtain ⟨j19, hj19, hm⟩ := bnd hm
    refine dss_cons (S1 := [.io (.lst (List.map Enc.enc (j19.1 : (List Int)))), .dat (en (a1 : Int)), .own (.lst (List.map Enc.enc (t1.2 : (List (List Str))))), .dat (en (x2 : Int)), .dat (en (j19.2 : (List Str))), .un]) (ds_if (dt_w (dw_and (k2 := v15.1) (S2 := [.io (.lst (List.map Enc.enc (v15.2 : (List Int)))), .dat (en (a1 : Int)), .own (.lst (List.map Enc.enc (t1.2 : (List (List Str))))), .dat (en (x2 : Int)), .dat (en (l13.1 : (List Str))), .un]) (dt_c (cr_gt) (de_var rfl rfl) (de_int)) (fun z => by have hm := ite_t hv15 z; obtain ⟨r14, hr14, hm⟩ := bnd hm; obtain rfl := inj_r hm; exact (dw_and1 (dt_c (cr_eqT (x := (r14.1 : Int)) (y := (0 : Int))) (de_call (S1 := [.io (.lst (List.map Enc.enc (l13.2 : (List Int)))), .dat (en (a1 : Int)), .own (.lst (List.map Enc.enc (t1.2 : (List (List Str))))), .dat (en (x2 : Int)), .dat (en (l13.1 : (List Str))), .un]) (S2 := [.io (.lst (List.map Enc.enc (r14.2 : (List Int)))), .dat (en (a1 : Int)), .own (.lst (List.map Enc.enc (t1.2 : (List (List Str))))), .dat (en (x2 : Int)), .dat (en (l13.1 : (List Str))), .un]) (d := (en (r14.1 : Int))) (C := C__law_take) (n := 2) rfl (da_slot (i := 0) rfl rfl rfl (da_dat (de_int) (da_nil))) (.io rfl (.inr rfl) rfl (.dat .nil)) ⟨_, _, r14, hr14, rfl, rfl, rfl⟩ (beh rfl rfl rfl)) (de_int)))) (fun z => by have hm := ite_f hv15 z; obtain rfl := inj_r hm; exact ⟨rfl, rfl⟩))) (fun z => ?_) (fun z => ?_)) ?_
    · clear hm
      have hm := ite_t hj19 z
      obtain ⟨r17, hr17, hm⟩ := bnd hm
      obtain ⟨v18, hv18, hm⟩ := bnd hm
      refine dss_cons (S1 := [.io (.lst (List.map Enc.enc (r17.2 : (List Int)))), .dat (en (a1 : Int)), .own (.lst (List.map Enc.enc (t1.2 : (List (List Str))))), .dat (en (x2 : Int)), .dat (en (v18 : (List Str))), .un]) (ds_set (i := 4) (S1 := [.io (.lst (List.map Enc.enc (r17.2 : (List Int)))), .dat (en (a1 : Int)), .own (.lst (List.map Enc.enc (t1.2 : (List (List Str))))), .dat (en (x2 : Int)), .dat (en (l13.1 : (List Str))), .un]) rfl rfl (d := en (v18 : (List Str))) (de_lend (i := 2) rfl (.inl rfl) (de_ixLT (xs := (t1.2 : (List (List Str)))) (db_var rfl rfl) (de_call (S1 := [.io (.lst (List.map Enc.enc (v15.2 : (List Int)))), .dat (en (a1 : Int)), .bor (.lst (List.map Enc.enc (t1.2 : (List (List Str))))), .dat (en (x2 : Int)), .dat (en (l13.1 : (List Str))), .un]) (S2 := [.io (.lst (List.map Enc.enc (r17.2 : (List Int)))), .dat (en (a1 : Int)), .bor (.lst (List.map Enc.enc (t1.2 : (List (List Str))))), .dat (en (x2 : Int)), .dat (en (l13.1 : (List Str))), .un]) (d := (en (r17.1 : Int))) (C := C__law_take) (n := 2) rfl (da_slot (i := 0) rfl rfl rfl (da_dat (de_var rfl rfl) (da_nil))) (.io rfl (.inr rfl) rfl (.dat .nil)) ⟨_, _, r17, hr17, rfl, rfl, rfl⟩ (beh rfl rfl rfl)) hv18) rfl)) ?_
      obtain rfl := inj_r hm
      exact dss_nil (.eq (.eq (.eq (.eq (.eq (.eq .nil))))))
    · clear hm
      have hm := ite_f hj19 z
      obtain rfl := inj_r hm
      exact dss_nil (.eq (.eq (.eq (.eq (.eq (.eq .nil))))))
    obtain ⟨u20, hu20, hm⟩ := bnd hm
    refine dss_cons (S1 := [.io (.lst (List.map Enc.enc (j19.1 : (List Int)))), .dat (en (a1 : Int)), .own (.lst (List.map Enc.enc ((t1.2 ++ [j19.2]) : (List (List Str))))), .dat (en (x2 : Int)), .dat (en (j19.2 : (List Str))), .un]) (ds_expr (de_appendT (i := 2) (xs := (t1.2 : (List (List Str)))) (y := j19.2) rfl rfl .own (de_var rfl rfl) rfl .own hu20)) ?_
    obtain rfl := inj_r hm
    exact dss_nil (.eq (.eq (.eq (.un rfl (.un rfl (.eq .nil))))))
  obtain rfl := inj_r hm
  exact dss_end (ds_le (S := _) (ds_ret (de_lend (i := 2) rfl (.inl rfl) (de_tupL (ds := List.map Enc.enc (f21.2 : (List (List Str)))) rfl (db_var rfl rfl)) rfl)) (.ret (.eq (.un rfl (.un rfl (.eq (.eq (.eq .nil))))))))
theorem h__law_text {P : Program} {w : World} {K : PySem.W.Frag} {mg : Str → Option Value} {base : Heap} {k : Nat} {f : Addr} {fd : FuncData} (F : Fun K "_law_text" "_law_text" (topS 14) f fd) (hm : mg "_law_text" = some (.ref f)) (hb : Binds K fd ["draws", "many"] []) (z : ∀ x ∈ g__law_text.blt ++ g__law_text.hid, mg x = none) (H0 : Has P w K mg base k "_law_take" 2 C__law_take) (H1 : Has P w K mg base k "_law_words" 0 C__law_words) : Has P w K mg base (k + 1) "_law_text" 2 C__law_text :=
  has_mk F hm hb (fn_ok F (N := ["draws", "many", "found", "k", "row", "j"]) (G := g__law_text) ⟨rfl, rfl, rfl, by decide +kernel, rfl, by decide +kernel, by decide +kernel⟩ rfl (by decide +kernel) rfl rfl rfl z (fun x m C e => by
    have e := lookup_mem e
    simp only [g__law_text, List.cons_append, List.nil_append, List.mem_cons, List.not_mem_nil, Prod.mk.injEq, or_false] at e
    rcases e with ⟨rfl, rfl, rfl⟩ | ⟨rfl, rfl, rfl⟩
    · exact H0
    · exact H1) (fun T r0 T' hC _ _ => by
      obtain ⟨a0, a1, r, hm, rfl, rfl, rfl⟩ := hC
      exact w__law_text _ _ _ hm) (fun T r0 T' hC => by
      obtain ⟨a0, a1, r, hm, rfl, rfl, rfl⟩ := hC
      exact ⟨Enc.pure _, fun s hs => by cases hs with | head => exact (purs_map _) | tail _ hs => exact (by cases hs with | head => exact rfl | tail _ hs => exact (by cases hs))⟩))
/-! ### _law_table -/
def m__law_table (a0 : (List Int)) (a1 : Int) : Option ((List (T2 Str Int)) × (List Int)) :=
  (m__law_words ).bind fun r1 =>
  (chkN (r1.length + ([("zero" : Str)] : List Str).length)).bind fun u2 =>
  (compM (fun (t7 : (List Int)) (x3 : Str) => (((m__law_take t7 (3 : Int)).bind fun r8 => (if (decide ((0 : Int) < r8.1)) = true then ((m__law_take r8.2 (10 : Int)).bind fun r9 => (chkM a1 r9.1).bind fun u10 => some (some (⟨x3, (a1 * r9.1)⟩ : (T2 Str Int)), r9.2)) else some (none, r8.2))) : Option (Option (T2 Str Int) × (List Int)))) a0 (r1 ++ ([("zero" : Str)] : List Str))).bind fun l11 =>
  some (((cutL l11.1 (none : Option Int) (some (7 : Int) : Option Int)), l11.2) : ((List (T2 Str Int)) × (List Int)))
def C__law_table : Contract := fun T r0 T' => ∃ (a0 : (List Int)) (a1 : Int) (r : ((List (T2 Str Int)) × (List Int))), m__law_table a0 a1 = some r ∧ T = [.io (.lst (List.map Enc.enc (a0 : (List Int)))), .dat (en (a1 : Int))] ∧ r0 = .dat (en (r.1 : (List (T2 Str Int)))) ∧ T' = [.io (.lst (List.map Enc.enc (r.2 : (List Int)))), .un]
def g__law_table : Cxt where
  N := ["draws", "scale", "word"]
  sc := defScope (topS 15)
  tab := [("draws", 0), ("scale", 1)]
  loc := []
  fnc := fun _ => true
  blt := ["tuple"]
  fns := [("_law_words", 0, C__law_words)]
  hid := []
  hfns := [("_law_take", 2, C__law_take)]
theorem w__law_table (a0 : (List Int)) (a1 : Int) (r : ((List (T2 Str Int)) × (List Int))) (hm : m__law_table a0 a1 = some r) : DSs g__law_table (defBody (topS 15)) [.io (.lst (List.map Enc.enc (a0 : (List Int)))), .dat (en (a1 : Int)), .un] (.ret (.dat (en (r.1 : (List (T2 Str Int))))) [.io (.lst (List.map Enc.enc (r.2 : (List Int)))), .un, .un]) := by
  unfold m__law_table at hm
  obtain ⟨r1, hr1, hm⟩ := bnd hm
  obtain ⟨u2, hu2, hm⟩ := bnd hm
  obtain ⟨l11, hl11, hm⟩ := bnd hm
  obtain rfl := inj_r hm
  exact dss_end (ds_le (S := _) (ds_ret (de_tupL (ds := List.map Enc.enc ((cutL l11.1 (none : Option Int) (some (7 : Int) : Option Int)) : (List (T2 Str Int)))) rfl (db_new (df_slLT (xs := l11.1) (db_new (df_lc (lc_ok (own := [("word", 2)]) (tab := [("draws", 0), ("scale", 1), ("word", 2)]) (loc := ["word"]) (f := Enc.enc) (h := Enc.enc) (xs := (r1 ++ ([("zero" : Str)] : List Str))) (ys := l11.1) (t0 := a0) (t1 := l11.2) (slots := fun t7 => [.io (.lst (List.map Enc.enc (t7 : (List Int)))), .dat (en (a1 : Int)), .un]) (tgt := fun t7 x3 => [.io (.lst (List.map Enc.enc (t7 : (List Int)))), .dat (en (a1 : Int)), .dat (en (x3 : Str))]) (by decide +kernel) (by decide +kernel) (dz_list (db_new (df_catBT (xs := (r1 : (List Str))) (ys := ([("zero" : Str)] : List Str)) (db_new (df_call0 (o := (.lst (List.map Enc.enc (r1 : (List Str))))) (C := C__law_words) (n := 0) rfl (da_nil) .nil ⟨r1, hr1, rfl, rfl, rfl⟩ .none)) (db_new (df_lst (dd_cons (de_str) (dd_nil)))) hu2))) rfl (fun _ i hi => by have hi : i ∈ [2] := hi; exact (by cases hi with | head => rfl | tail _ hi => exact (by cases hi))) (fun _ => rfl) (by decide) (fun t7 x3 _ => dg_name (i := 2) rfl rfl) (fun t7 x3 o t' _ hm => (by have hm := hm; obtain ⟨r8, hr8, hm⟩ := bnd hm; by_cases hk : (decide ((0 : Int) < r8.1)) = true; (have hm := ite_t hm hk; obtain ⟨r9, hr9, hm⟩ := bnd hm; obtain ⟨u10, hu10, hm⟩ := bnd hm; obtain ⟨rfl, rfl⟩ := inj_p hm; exact ⟨_, _, dts_one (dt_eq (dt_c (cr_gt) (de_call (S1 := [.io (.lst (List.map Enc.enc (t7 : (List Int)))), .dat (en (a1 : Int)), .dat (en (x3 : Str))]) (S2 := [.io (.lst (List.map Enc.enc (r8.2 : (List Int)))), .dat (en (a1 : Int)), .dat (en (x3 : Str))]) (d := (en (r8.1 : Int))) (C := C__law_take) (n := 2) rfl (da_slot (i := 0) rfl rfl rfl (da_dat (de_int) (da_nil))) (.io rfl (.inr rfl) rfl (.dat .nil)) ⟨_, _, r8, hr8, rfl, rfl, rfl⟩ (beh rfl rfl rfl)) (de_int)) hk), de_tup (dd_cons (de_var rfl rfl) (dd_cons (de_mul (de_var rfl rfl) (de_call (S1 := [.io (.lst (List.map Enc.enc (r8.2 : (List Int)))), .dat (en (a1 : Int)), .dat (en (x3 : Str))]) (S2 := [.io (.lst (List.map Enc.enc (r9.2 : (List Int)))), .dat (en (a1 : Int)), .dat (en (x3 : Str))]) (d := (en (r9.1 : Int))) (C := C__law_take) (n := 2) rfl (da_slot (i := 0) rfl rfl rfl (da_dat (de_int) (da_nil))) (.io rfl (.inr rfl) rfl (.dat .nil)) ⟨_, _, r9, hr9, rfl, rfl, rfl⟩ (beh rfl rfl rfl)) (chkM_ok hu10)) (dd_nil))), rfl⟩); (have hm := ite_f hm (ne_t hk); obtain ⟨rfl, rfl⟩ := inj_p hm; exact ⟨_, dts_one (dt_eq (dt_c (cr_gt) (de_call (S1 := [.io (.lst (List.map Enc.enc (t7 : (List Int)))), .dat (en (a1 : Int)), .dat (en (x3 : Str))]) (S2 := [.io (.lst (List.map Enc.enc (r8.2 : (List Int)))), .dat (en (a1 : Int)), .dat (en (x3 : Str))]) (d := (en (r8.1 : Int))) (C := C__law_take) (n := 2) rfl (da_slot (i := 0) rfl rfl rfl (da_dat (de_int) (da_nil))) (.io rfl (.inr rfl) rfl (.dat .nil)) ⟨_, _, r8, hr8, rfl, rfl, rfl⟩ (beh rfl rfl rfl)) (de_int)) (ne_t hk)), rfl⟩))) hl11))) (do_none) (do_some (de_int)))))) (.ret (.eq (.un rfl (.eq .nil)))))
theorem h__law_table {P : Program} {w : World} {K : PySem.W.Frag} {mg : Str → Option Value} {base : Heap} {k : Nat} {f : Addr} {fd : FuncData} (F : Fun K "_law_table" "_law_table" (topS 15) f fd) (hm : mg "_law_table" = some (.ref f)) (hb : Binds K fd ["draws", "scale"] []) (z : ∀ x ∈ g__law_table.blt ++ g__law_table.hid, mg x = none) (H0 : Has P w K mg base k "_law_words" 0 C__law_words) (H1 : Has P w K mg base k "_law_take" 2 C__law_take) : Has P w K mg base (k + 1) "_law_table" 2 C__law_table :=
  has_mk F hm hb (fn_ok F (N := ["draws", "scale", "word"]) (G := g__law_table) ⟨rfl, rfl, rfl, by decide +kernel, rfl, by decide +kernel, by decide +kernel⟩ rfl (by decide +kernel) rfl rfl rfl z (fun x m C e => by
    have e := lookup_mem e
    simp only [g__law_table, List.cons_append, List.nil_append, List.mem_cons, List.not_mem_nil, Prod.mk.injEq, or_false] at e
    rcases e with ⟨rfl, rfl, rfl⟩ | ⟨rfl, rfl, rfl⟩
    · exact H0
    · exact H1) (fun T r0 T' hC _ _ => by
      obtain ⟨a0, a1, r, hm, rfl, rfl, rfl⟩ := hC
      exact w__law_table _ _ _ hm) (fun T r0 T' hC => by
      obtain ⟨a0, a1, r, hm, rfl, rfl, rfl⟩ := hC
      exact ⟨Enc.pure _, fun s hs => by cases hs with | head => exact (purs_map _) | tail _ hs => exact (by cases hs with | head => exact rfl | tail _ hs => exact (by cases hs))⟩))
/-! ### all_sets -/
def m_all_sets (a0 : Int) : Option (List (List Int)) :=
  (some ([([] : (List Int))] : List (List Int))).bind fun v1 =>
  (loopF (fun (t2 : (List (List Int))) (x3 : Int) =>
  ((compO (fun (x4 : (List Int)) => (((chkN (x4.length + ([x3] : (List Int)).length)).bind fun u5 => some (some (x4 ++ ([x3] : (List Int))))) : Option (Option (List Int)))) t2).bind fun l6 =>
  (chkN (t2.length + l6.length)).bind fun u7 =>
  some (t2 ++ l6) : Option (List (List Int)))) v1 (rng 0 a0)).bind fun f8 =>
  some (f8 : (List (List Int)))
def C_all_sets : Contract := fun T r0 T' => ∃ (a0 : Int) (r : (List (List Int))), m_all_sets a0 = some r ∧ T = [.dat (en (a0 : Int))] ∧ r0 = .own (.lst (List.map Enc.enc (r : (List (List Int))))) ∧ T' = [.un]
def g_all_sets : Cxt where
  N := ["many", "found", "at", "some"]
  sc := defScope (topS 3)
  tab := [("many", 0), ("found", 1), ("at", 2)]
  loc := ["found", "at"]
  fnc := fun _ => true
  blt := ["range"]
  fns := []
  hid := []
  hfns := []
theorem w_all_sets (a0 : Int) (r : (List (List Int))) (hm : m_all_sets a0 = some r) : DSs g_all_sets (defBody (topS 3)) [.dat (en (a0 : Int)), .un, .un, .un] (.ret (.own (.lst (List.map Enc.enc (r : (List (List Int)))))) [.un, .un, .un, .un]) := by
  unfold m_all_sets at hm
  obtain ⟨v1, hv1, hm⟩ := bnd hm
  refine dss_cons (S1 := [.dat (en (a0 : Int)), .own (.lst (List.map Enc.enc (v1 : (List (List Int))))), .un, .un]) (ds_eqS (ds_setO (i := 1) (S1 := [.dat (en (a0 : Int)), .un, .un, .un]) rfl rfl (df_lst (dd_cons (de_tup (dd_nil)) (dd_nil)))) (by rw [inj_s hv1]; rfl)) ?_
  obtain ⟨f8, hf8, hm⟩ := bnd hm
  refine dss_cons (S1 := [.dat (en (a0 : Int)), .own (.lst (List.map Enc.enc (f8 : (List (List Int))))), .un, .un]) (ds_forF (t0 := (v1 : (List (List Int)))) (f := Enc.enc) (fun (t2 : (List (List Int))) => [.dat (en (a0 : Int)), .own (.lst (List.map Enc.enc (t2 : (List (List Int))))), .un, .un]) (fun (t2 : (List (List Int))) (x3 : Int) => [.dat (en (a0 : Int)), .own (.lst (List.map Enc.enc (t2 : (List (List Int))))), .dat (en (x3 : Int)), .un]) (di_range1 rfl (de_var rfl rfl)) (show Wk [.dat (en (a0 : Int)), .own (.lst (List.map Enc.enc (v1 : (List (List Int))))), .un, .un] _ from (.eq (.eq (.eq (.eq .nil))))) (fun t2 x3 _ => dg_name (i := 2) rfl rfl) (fun t2 x3 t' _ hm => ?_) hf8) ?_
  · obtain ⟨l6, hl6, hm⟩ := bnd hm
    obtain ⟨u7, hu7, hm⟩ := bnd hm
    refine dss_cons (S1 := [.dat (en (a0 : Int)), .own (.lst (List.map Enc.enc ((t2 ++ l6) : (List (List Int))))), .dat (en (x3 : Int)), .un]) (ds_augLT (i := 1) (S1 := [.dat (en (a0 : Int)), .own (.lst (List.map Enc.enc (t2 : (List (List Int))))), .dat (en (x3 : Int)), .un]) (xs := (t2 : (List (List Int)))) (ys := l6) rfl rfl rfl .own (df_lend (i := 1) rfl (.inl rfl) (df_lc (lc_okO (own := [("some", 3)]) (tab := [("at", 2), ("some", 3)]) (loc := ["some"]) (f := Enc.enc) (h := Enc.enc) (xs := t2) (tgt := fun x4 => [.dat (en (a0 : Int)), .bor (.lst (List.map Enc.enc (t2 : (List (List Int))))), .dat (en (x3 : Int)), .dat (en (x4 : (List Int)))]) (by decide +kernel) (by decide +kernel) (dz_list (db_var rfl rfl)) rfl (by decide) (fun x4 _ => dg_name (i := 3) rfl rfl) (fun x4 o _ hm => (by have hm := hm; obtain ⟨u5, hu5, hm⟩ := bnd hm; obtain rfl := inj_r hm; exact ⟨_, _, dts_nil, de_catTT (xs := x4) (ys := ([x3] : (List Int))) (de_var rfl rfl) (de_tup (dd_cons (de_var rfl rfl) (dd_nil))) hu5, rfl⟩)) hl6)) rfl) rfl .own hu7) ?_
    obtain rfl := inj_r hm
    exact dss_nil (.eq (.eq (.un rfl (.eq .nil))))
  obtain rfl := inj_r hm
  exact dss_end (ds_le (S := _) (ds_retO rfl rfl) (.ret (.un rfl (.un rfl (.eq (.eq .nil))))))
theorem h_all_sets {P : Program} {w : World} {K : PySem.W.Frag} {mg : Str → Option Value} {base : Heap} {k : Nat} {f : Addr} {fd : FuncData} (F : Fun K "all_sets" "all_sets" (topS 3) f fd) (hm : mg "all_sets" = some (.ref f)) (hb : Binds K fd ["many"] []) (z : ∀ x ∈ g_all_sets.blt ++ g_all_sets.hid, mg x = none)  : Has P w K mg base (k + 1) "all_sets" 1 C_all_sets :=
  has_mk F hm hb (fn_ok F (N := ["many", "found", "at", "some"]) (G := g_all_sets) ⟨rfl, rfl, rfl, by decide +kernel, rfl, by decide +kernel, by decide +kernel⟩ rfl (by decide +kernel) rfl rfl rfl z (fun x m C e => by cases e) (fun T r0 T' hC _ _ => by
      obtain ⟨a0, r, hm, rfl, rfl, rfl⟩ := hC
      exact w_all_sets _ _ hm) (fun T r0 T' hC => by
      obtain ⟨a0, r, hm, rfl, rfl, rfl⟩ := hC
      exact ⟨purs_map _, fun s hs => by cases hs with | head => exact rfl | tail _ hs => exact (by cases hs)⟩))
/-! ### words_in_brief -/
def m_words_in_brief (a0 : (List (List Str))) (a1 : (List Int)) : Option Int :=
  (compO (fun (x1 : Int) => (((atI a0 x1).bind fun v2 => some (some (v2.length : Int))) : Option (Option Int))) a1).bind fun l3 =>
  some ((l3.sum : Int) : Int)
def C_words_in_brief : Contract := fun T r0 T' => ∃ (a0 : (List (List Str))) (a1 : (List Int)) (r : Int), m_words_in_brief a0 a1 = some r ∧ T = [.dat (en (a0 : (List (List Str)))), .dat (en (a1 : (List Int)))] ∧ r0 = .dat (en (r : Int)) ∧ T' = [.un, .un]
def g_words_in_brief : Cxt where
  N := ["sentences", "told", "number"]
  sc := defScope (topS 2)
  tab := [("sentences", 0), ("told", 1)]
  loc := []
  fnc := fun _ => true
  blt := ["sum"]
  fns := []
  hid := ["len"]
  hfns := []
theorem w_words_in_brief (a0 : (List (List Str))) (a1 : (List Int)) (r : Int) (hm : m_words_in_brief a0 a1 = some r) : DSs g_words_in_brief (defBody (topS 2)) [.dat (en (a0 : (List (List Str)))), .dat (en (a1 : (List Int))), .un] (.ret (.dat (en (r : Int))) [.un, .un, .un]) := by
  unfold m_words_in_brief at hm
  obtain ⟨l3, hl3, hm⟩ := bnd hm
  obtain rfl := inj_r hm
  exact dss_end (ds_le (S := _) (ds_ret (de_sumL (xs := l3) rfl (db_new (df_lc (lc_okO (own := [("number", 2)]) (tab := [("sentences", 0), ("number", 2)]) (loc := ["number"]) (f := Enc.enc) (h := Enc.enc) (xs := a1) (tgt := fun x1 => [.dat (en (a0 : (List (List Str)))), .dat (en (a1 : (List Int))), .dat (en (x1 : Int))]) (by decide +kernel) (by decide +kernel) (dz_tup (de_var rfl rfl)) rfl (by decide) (fun x1 _ => dg_name (i := 2) rfl rfl) (fun x1 o _ hm => (by have hm := hm; obtain ⟨v2, hv2, hm⟩ := bnd hm; obtain rfl := inj_r hm; exact ⟨_, _, dts_nil, de_lenTT (xs := (v2 : (List Str))) rfl (de_ixTT (xs := (a0 : (List (List Str)))) (de_var rfl rfl) (de_var rfl rfl) hv2), rfl⟩)) hl3))))) (.ret (.un rfl (.un rfl (.eq .nil)))))
theorem h_words_in_brief {P : Program} {w : World} {K : PySem.W.Frag} {mg : Str → Option Value} {base : Heap} {k : Nat} {f : Addr} {fd : FuncData} (F : Fun K "words_in_brief" "words_in_brief" (topS 2) f fd) (hm : mg "words_in_brief" = some (.ref f)) (hb : Binds K fd ["sentences", "told"] []) (z : ∀ x ∈ g_words_in_brief.blt ++ g_words_in_brief.hid, mg x = none)  : Has P w K mg base (k + 1) "words_in_brief" 2 C_words_in_brief :=
  has_mk F hm hb (fn_ok F (N := ["sentences", "told", "number"]) (G := g_words_in_brief) ⟨rfl, rfl, rfl, by decide +kernel, rfl, by decide +kernel, by decide +kernel⟩ rfl (by decide +kernel) rfl rfl rfl z (fun x m C e => by cases e) (fun T r0 T' hC _ _ => by
      obtain ⟨a0, a1, r, hm, rfl, rfl, rfl⟩ := hC
      exact w_words_in_brief _ _ _ hm) (fun T r0 T' hC => by
      obtain ⟨a0, a1, r, hm, rfl, rfl, rfl⟩ := hC
      exact ⟨Enc.pure _, fun s hs => by cases hs with | head => exact rfl | tail _ hs => exact (by cases hs with | head => exact rfl | tail _ hs => exact (by cases hs))⟩))
/-! ### worth_of_brief -/
def m_worth_of_brief (a0 : (List (List Str))) (a1 : (List (T2 Str Int))) (a2 : (List Int)) : Option Int :=
  (flatO (fun (x1 : Int) => (((atI a0 x1).bind fun v3 => compO (fun (x2 : Str) => (some (some ((x2, true) : (Str × Bool))) : Option (Option (Str × Bool)))) v3) : Option (List (Str × Bool)))) a2).bind fun l4 =>
  (chkN l4.length).bind fun u5 =>
  (some (ofP l4)).bind fun v6 =>
  some ((((List.filter (fun (x7 : (T2 Str Int)) => (getG v6 x7.a).isSome) a1).map (fun (x7 : (T2 Str Int)) => (x7.b : Int))).sum : Int) : Int)
def C_worth_of_brief : Contract := fun T r0 T' => ∃ (a0 : (List (List Str))) (a1 : (List (T2 Str Int))) (a2 : (List Int)) (r : Int), m_worth_of_brief a0 a1 a2 = some r ∧ T = [.dat (en (a0 : (List (List Str)))), .dat (en (a1 : (List (T2 Str Int)))), .dat (en (a2 : (List Int)))] ∧ r0 = .dat (en (r : Int)) ∧ T' = [.un, .un, .un]
def g_worth_of_brief : Cxt where
  N := ["sentences", "table", "told", "there", "number", "word", "weight"]
  sc := defScope (topS 1)
  tab := [("sentences", 0), ("table", 1), ("told", 2), ("there", 3)]
  loc := ["there"]
  fnc := fun _ => true
  blt := ["sum"]
  fns := []
  hid := []
  hfns := []
theorem w_worth_of_brief (a0 : (List (List Str))) (a1 : (List (T2 Str Int))) (a2 : (List Int)) (r : Int) (hm : m_worth_of_brief a0 a1 a2 = some r) : DSs g_worth_of_brief (defBody (topS 1)) [.dat (en (a0 : (List (List Str)))), .dat (en (a1 : (List (T2 Str Int)))), .dat (en (a2 : (List Int))), .un, .un, .un, .un] (.ret (.dat (en (r : Int))) [.un, .un, .un, .un, .un, .un, .un]) := by
  unfold m_worth_of_brief at hm
  obtain ⟨l4, hl4, hm⟩ := bnd hm
  obtain ⟨u5, hu5, hm⟩ := bnd hm
  obtain ⟨v6, hv6, hm⟩ := bnd hm
  refine dss_cons (S1 := [.dat (en (a0 : (List (List Str)))), .dat (en (a1 : (List (T2 Str Int)))), .dat (en (a2 : (List Int))), .own (.dk (dE (v6 : (List (Str × Bool))))), .un, .un, .un]) (ds_eqS (ds_setODC (i := 3) (S1 := [.dat (en (a0 : (List (List Str)))), .dat (en (a1 : (List (T2 Str Int)))), .dat (en (a2 : (List Int))), .un, .un, .un, .un]) rfl rfl (by decide +kernel) (df_eq (df_dc2 (dc2_ok (own := [("number", 4), ("word", 5)]) (tab := [("sentences", 0), ("number", 4), ("word", 5)]) (loc := ["number", "word"]) (vs1 := [5]) (f := Enc.enc) (f1 := Enc.enc) (h := fun (p : Str × Bool) => (KeyE.key p.1, Enc.enc p.2)) (xs := a2) (inner := (fun (x1 : Int) => (((atI a0 x1).bind fun v3 => compO (fun (x2 : Str) => (some (some ((x2, true) : (Str × Bool))) : Option (Option (Str × Bool)))) v3) : Option (List (Str × Bool))))) (T1 := fun x1 => [.dat (en (a0 : (List (List Str)))), .dat (en (a1 : (List (T2 Str Int)))), .dat (en (a2 : (List Int))), .un, .dat (en (x1 : Int)), .un, .un]) (by decide +kernel) (by decide +kernel) (by decide) (di_tup (de_var rfl rfl)) rfl (by decide) (fun x1 _ => dg_name (i := 4) rfl rfl) (fun _ _ => ⟨rfl, rfl⟩) (fun x1 _ _ hm => by have hm := hm; obtain ⟨v3, hv3, hm⟩ := bnd hm; exact .inr ⟨dts_nil, [5], v3, _, fun x2 => [.dat (en (a0 : (List (List Str)))), .dat (en (a1 : (List (T2 Str Int)))), .dat (en (a2 : (List Int))), .un, .dat (en (x1 : Int)), .dat (en (x2 : Str)), .un], by decide, di2_tup (de_ixTT (xs := (a0 : (List (List Str)))) (de_var rfl rfl) (de_var rfl rfl) hv3), hm, fun x2 _ => dg_name (i := 5) rfl rfl, fun _ _ => rfl, fun x2 o _ hm => (by have hm := hm; obtain rfl := inj_r hm; exact ⟨dts_nil, de_var rfl rfl, de_bl⟩)⟩) hl4 (chkN_le hu5))) (by rw [ofP_dE]))) (by rw [inj_s hv6]; rfl)) ?_
  obtain rfl := inj_r hm
  exact dss_end (ds_le (S := _) (ds_ret (de_sumL (xs := ((List.filter (fun (x7 : (T2 Str Int)) => (getG v6 x7.a).isSome) a1).map (fun (x7 : (T2 Str Int)) => (x7.b : Int)))) rfl (db_new (df_lc (lc_okP (own := [("word", 5), ("weight", 6)]) (tab := [("there", 3), ("word", 5), ("weight", 6)]) (loc := ["word", "weight"]) (f := Enc.enc) (h := Enc.enc) (xs := a1) (cd := fun (x7 : (T2 Str Int)) => (getG v6 x7.a).isSome) (el := fun (x7 : (T2 Str Int)) => (x7.b : Int)) (tgt := fun x7 => [.dat (en (a0 : (List (List Str)))), .dat (en (a1 : (List (T2 Str Int)))), .dat (en (a2 : (List Int))), .own (.dk (dE (v6 : (List (Str × Bool))))), .un, .dat (en (x7.a : Str)), .dat (en (x7.b : Int))]) (by decide +kernel) (by decide +kernel) (dz_tup (de_var rfl rfl)) rfl (by decide) (fun x7 _ => dg_tup (ds := [en x7.a, en x7.b]) (dgs_cons (dg_name (i := 5) rfl rfl) (dgs_cons (dg_name (i := 6) rfl rfl) (dgs_nil)))) (fun x7 _ => dts_one (dt_lend (i := 3) rfl (.inl rfl) (dt_dinT (k := (x7.a : Str)) (dd := v6) (de_var rfl rfl) (db_var rfl rfl)) rfl)) (fun x7 _ _ => de_var rfl rfl) (fun _ => rfl)))))) (.ret (.un rfl (.un rfl (.un rfl (.un rfl (.eq (.eq (.eq .nil)))))))))
theorem h_worth_of_brief {P : Program} {w : World} {K : PySem.W.Frag} {mg : Str → Option Value} {base : Heap} {k : Nat} {f : Addr} {fd : FuncData} (F : Fun K "worth_of_brief" "worth_of_brief" (topS 1) f fd) (hm : mg "worth_of_brief" = some (.ref f)) (hb : Binds K fd ["sentences", "table", "told"] []) (z : ∀ x ∈ g_worth_of_brief.blt ++ g_worth_of_brief.hid, mg x = none)  : Has P w K mg base (k + 1) "worth_of_brief" 3 C_worth_of_brief :=
  has_mk F hm hb (fn_ok F (N := ["sentences", "table", "told", "there", "number", "word", "weight"]) (G := g_worth_of_brief) ⟨rfl, rfl, rfl, by decide +kernel, rfl, by decide +kernel, by decide +kernel⟩ rfl (by decide +kernel) rfl rfl rfl z (fun x m C e => by cases e) (fun T r0 T' hC _ _ => by
      obtain ⟨a0, a1, a2, r, hm, rfl, rfl, rfl⟩ := hC
      exact w_worth_of_brief _ _ _ _ hm) (fun T r0 T' hC => by
      obtain ⟨a0, a1, a2, r, hm, rfl, rfl, rfl⟩ := hC
      exact ⟨Enc.pure _, fun s hs => by cases hs with | head => exact rfl | tail _ hs => exact (by cases hs with | head => exact rfl | tail _ hs => exact (by cases hs with | head => exact rfl | tail _ hs => exact (by cases hs)))⟩))
/-! ### best_brief -/
def m_best_brief (a0 : (List (List Str))) (a1 : (List (T2 Str Int))) (a2 : Int) : Option (T2 Int (List Int)) :=
  (m_all_sets (a0.length : Int)).bind fun r1 =>
  (loopF (fun (t2 : (List (T2 Int (List Int)))) (x3 : (List Int)) =>
  ((m_words_in_brief a0 x3).bind fun r4 =>
  ((if (decide (r4 ≤ a2)) = true then
    ((m_worth_of_brief a0 a1 x3).bind fun r6 =>
    (chkN t2.length).bind fun u7 =>
    some (t2 ++ [(⟨(-r6), x3⟩ : (T2 Int (List Int)))]))
  else
    (some t2) : Option (List (T2 Int (List Int))))).bind fun j8 =>
  some j8 : Option (List (T2 Int (List Int))))) ([] : List (T2 Int (List Int))) r1).bind fun f9 =>
  (minE (f9 : (List (T2 Int (List Int))))).bind fun v10 =>
  (some (v10 : (T2 Int (List Int)))).bind fun v11 =>
  some ((⟨(-v11.a), v11.b⟩ : (T2 Int (List Int))) : (T2 Int (List Int)))
def C_best_brief : Contract := fun T r0 T' => ∃ (a0 : (List (List Str))) (a1 : (List (T2 Str Int))) (a2 : Int) (r : (T2 Int (List Int))), m_best_brief a0 a1 a2 = some r ∧ T = [.dat (en (a0 : (List (List Str)))), .dat (en (a1 : (List (T2 Str Int)))), .dat (en (a2 : Int))] ∧ r0 = .dat (en (r : (T2 Int (List Int)))) ∧ T' = [.un, .un, .un]
def g_best_brief : Cxt where
  N := ["sentences", "table", "most", "told", "some", "worth"]
  sc := defScope (topS 4)
  tab := [("sentences", 0), ("table", 1), ("most", 2), ("told", 3), ("some", 4), ("worth", 5)]
  loc := ["told", "some", "worth"]
  fnc := fun _ => true
  blt := ["min", "len"]
  fns := [("all_sets", 1, C_all_sets), ("words_in_brief", 2, C_words_in_brief), ("worth_of_brief", 3, C_worth_of_brief)]
  hid := []
  hfns := []
theorem w_best_brief (a0 : (List (List Str))) (a1 : (List (T2 Str Int))) (a2 : Int) (r : (T2 Int (List Int))) (hm : m_best_brief a0 a1 a2 = some r) : DSs g_best_brief (defBody (topS 4)) [.dat (en (a0 : (List (List Str)))), .dat (en (a1 : (List (T2 Str Int)))), .dat (en (a2 : Int)), .un, .un, .un] (.ret (.dat (en (r : (T2 Int (List Int))))) [.un, .un, .un, .un, .un, .un]) := by
  unfold m_best_brief at hm
  refine dss_cons (S1 := [.dat (en (a0 : (List (List Str)))), .dat (en (a1 : (List (T2 Str Int)))), .dat (en (a2 : Int)), .own (.lst (List.map Enc.enc (([] : List (T2 Int (List Int))) : (List (T2 Int (List Int)))))), .un, .un]) (ds_setO (i := 3) (S1 := [.dat (en (a0 : (List (List Str)))), .dat (en (a1 : (List (T2 Str Int)))), .dat (en (a2 : Int)), .un, .un, .un]) rfl rfl (df_lst (dd_nil))) ?_
  obtain ⟨r1, hr1, hm⟩ := bnd hm
  obtain ⟨f9, hf9, hm⟩ := bnd hm
  refine dss_cons (S1 := [.dat (en (a0 : (List (List Str)))), .dat (en (a1 : (List (T2 Str Int)))), .dat (en (a2 : Int)), .own (.lst (List.map Enc.enc (f9 : (List (T2 Int (List Int)))))), .un, .un]) (ds_forF (t0 := (([] : List (T2 Int (List Int))) : (List (T2 Int (List Int))))) (f := Enc.enc) (fun (t2 : (List (T2 Int (List Int)))) => [.dat (en (a0 : (List (List Str)))), .dat (en (a1 : (List (T2 Str Int)))), .dat (en (a2 : Int)), .own (.lst (List.map Enc.enc (t2 : (List (T2 Int (List Int)))))), .un, .un]) (fun (t2 : (List (T2 Int (List Int)))) (x3 : (List Int)) => [.dat (en (a0 : (List (List Str)))), .dat (en (a1 : (List (T2 Str Int)))), .dat (en (a2 : Int)), .own (.lst (List.map Enc.enc (t2 : (List (T2 Int (List Int)))))), .dat (en (x3 : (List Int))), .un]) (di_list (db_new (df_call (o := (.lst (List.map Enc.enc (r1 : (List (List Int)))))) (C := C_all_sets) (n := 1) rfl (da_dat (de_lenTT (xs := (a0 : (List (List Str)))) rfl (de_var rfl rfl)) (da_nil)) (.dat .nil) ⟨_, r1, hr1, rfl, rfl, rfl⟩ .none))) (show Wk [.dat (en (a0 : (List (List Str)))), .dat (en (a1 : (List (T2 Str Int)))), .dat (en (a2 : Int)), .own (.lst (List.map Enc.enc (([] : List (T2 Int (List Int))) : (List (T2 Int (List Int)))))), .un, .un] _ from (.eq (.eq (.eq (.eq (.eq (.eq .nil))))))) (fun t2 x3 _ => dg_name (i := 4) rfl rfl) (fun t2 x3 t' _ hm => ?_) hf9) ?_
  · obtain ⟨r4, hr4, hm⟩ := bnd hm
    obtain ⟨j8, hj8, hm⟩ := bnd hm
    refine dss_cons (S1 := [.dat (en (a0 : (List (List Str)))), .dat (en (a1 : (List (T2 Str Int)))), .dat (en (a2 : Int)), .own (.lst (List.map Enc.enc (j8 : (List (T2 Int (List Int)))))), .dat (en (x3 : (List Int))), .un]) (ds_if (dt_c (cr_le) (de_call (d := (en (r4 : Int))) (C := C_words_in_brief) (n := 2) rfl (da_dat (de_var rfl rfl) (da_dat (de_var rfl rfl) (da_nil))) (.dat (.dat .nil)) ⟨_, _, r4, hr4, rfl, rfl, rfl⟩ .none) (de_var rfl rfl)) (fun z => ?_) (fun z => ?_)) ?_
    · clear hm
      have hm := ite_t hj8 z
      obtain ⟨r6, hr6, hm⟩ := bnd hm
      obtain ⟨u7, hu7, hm⟩ := bnd hm
      refine dss_cons (S1 := [.dat (en (a0 : (List (List Str)))), .dat (en (a1 : (List (T2 Str Int)))), .dat (en (a2 : Int)), .own (.lst (List.map Enc.enc ((t2 ++ [(⟨(-r6), x3⟩ : (T2 Int (List Int)))]) : (List (T2 Int (List Int)))))), .dat (en (x3 : (List Int))), .un]) (ds_expr (de_appendT (i := 3) (xs := (t2 : (List (T2 Int (List Int))))) (y := (⟨(-r6), x3⟩ : (T2 Int (List Int)))) rfl rfl .own (de_tup (dd_cons (de_neg (de_call (d := (en (r6 : Int))) (C := C_worth_of_brief) (n := 3) rfl (da_dat (de_var rfl rfl) (da_dat (de_var rfl rfl) (da_dat (de_var rfl rfl) (da_nil)))) (.dat (.dat (.dat .nil))) ⟨_, _, _, r6, hr6, rfl, rfl, rfl⟩ .none)) (dd_cons (de_var rfl rfl) (dd_nil)))) rfl .own hu7)) ?_
      obtain rfl := inj_r hm
      exact dss_nil (.eq (.eq (.eq (.eq (.eq (.eq .nil))))))
    · clear hm
      have hm := ite_f hj8 z
      obtain rfl := inj_r hm
      exact dss_nil (.eq (.eq (.eq (.eq (.eq (.eq .nil))))))
    obtain rfl := inj_r hm
    exact dss_nil (.eq (.eq (.eq (.eq (.un rfl (.eq .nil))))))
  obtain ⟨v10, hv10, hm⟩ := bnd hm
  obtain ⟨v11, hv11, hm⟩ := bnd hm
  refine dss_cons (S1 := [.dat (en (a0 : (List (List Str)))), .dat (en (a1 : (List (T2 Str Int)))), .dat (en (a2 : Int)), .own (.lst (List.map Enc.enc (f9 : (List (T2 Int (List Int)))))), .dat (en (v11.b : (List Int))), .dat (en (v11.a : Int))]) (ds_asg (S1 := [.dat (en (a0 : (List (List Str)))), .dat (en (a1 : (List (T2 Str Int)))), .dat (en (a2 : Int)), .own (.lst (List.map Enc.enc (f9 : (List (T2 Int (List Int)))))), .un, .un]) (de_eq (d := en (v10 : (T2 Int (List Int)))) (d1 := en (v11 : (T2 Int (List Int)))) (de_lend (i := 3) rfl (.inl rfl) (de_minB rfl (db_var rfl rfl) hv10) rfl) (by rw [inj_s hv11])) (dg_tup (ds := [en v11.a, en v11.b]) (dgs_cons (dg_name (i := 5) rfl rfl) (dgs_cons (dg_name (i := 4) rfl rfl) (dgs_nil))))) ?_
  obtain rfl := inj_r hm
  exact dss_end (ds_le (S := _) (ds_ret (de_tup (dd_cons (de_neg (de_var rfl rfl)) (dd_cons (de_var rfl rfl) (dd_nil))))) (.ret (.un rfl (.un rfl (.un rfl (.un rfl (.un rfl (.un rfl .nil))))))))
theorem h_best_brief {P : Program} {w : World} {K : PySem.W.Frag} {mg : Str → Option Value} {base : Heap} {k : Nat} {f : Addr} {fd : FuncData} (F : Fun K "best_brief" "best_brief" (topS 4) f fd) (hm : mg "best_brief" = some (.ref f)) (hb : Binds K fd ["sentences", "table", "most"] []) (z : ∀ x ∈ g_best_brief.blt ++ g_best_brief.hid, mg x = none) (H0 : Has P w K mg base k "all_sets" 1 C_all_sets) (H1 : Has P w K mg base k "words_in_brief" 2 C_words_in_brief) (H2 : Has P w K mg base k "worth_of_brief" 3 C_worth_of_brief) : Has P w K mg base (k + 1) "best_brief" 3 C_best_brief :=
  has_mk F hm hb (fn_ok F (N := ["sentences", "table", "most", "told", "some", "worth"]) (G := g_best_brief) ⟨rfl, rfl, rfl, by decide +kernel, rfl, by decide +kernel, by decide +kernel⟩ rfl (by decide +kernel) rfl rfl rfl z (fun x m C e => by
    have e := lookup_mem e
    simp only [g_best_brief, List.cons_append, List.nil_append, List.mem_cons, List.not_mem_nil, Prod.mk.injEq, or_false] at e
    rcases e with ⟨rfl, rfl, rfl⟩ | ⟨rfl, rfl, rfl⟩ | ⟨rfl, rfl, rfl⟩
    · exact H0
    · exact H1
    · exact H2) (fun T r0 T' hC _ _ => by
      obtain ⟨a0, a1, a2, r, hm, rfl, rfl, rfl⟩ := hC
      exact w_best_brief _ _ _ _ hm) (fun T r0 T' hC => by
      obtain ⟨a0, a1, a2, r, hm, rfl, rfl, rfl⟩ := hC
      exact ⟨Enc.pure _, fun s hs => by cases hs with | head => exact rfl | tail _ hs => exact (by cases hs with | head => exact rfl | tail _ hs => exact (by cases hs with | head => exact rfl | tail _ hs => exact (by cases hs)))⟩))
/-! ### first_sentences -/
def m_first_sentences (a0 : (List (List Str))) (a1 : Int) : Option (List Int) :=
  (some (([] : (List Int)) : (List Int))).bind fun v1 =>
  (loopM (fun (t2 : (List Int)) (x3 : Int) =>
  ((chkN (t2.length + ([x3] : (List Int)).length)).bind fun u4 =>
  (m_words_in_brief a0 (t2 ++ ([x3] : (List Int)))).bind fun r5 =>
  if (decide (a1 < r5)) = true then
    (some (Out.ret (t2 : (List Int))))
  else
    ((chkN ((t2).length + (([x3] : (List Int))).length)).bind fun u7 =>
    (some (t2 ++ ([x3] : (List Int)) : (List Int))).bind fun v8 =>
    some (.nx v8)) : Option (Out (List Int) (List Int)))) v1 (rng 0 (a0.length : Int))).bind fun o9 =>
  outC o9 (fun r => some r) fun t10 =>
  some (t10 : (List Int))
def C_first_sentences : Contract := fun T r0 T' => ∃ (a0 : (List (List Str))) (a1 : Int) (r : (List Int)), m_first_sentences a0 a1 = some r ∧ T = [.dat (en (a0 : (List (List Str)))), .dat (en (a1 : Int))] ∧ r0 = .dat (en (r : (List Int))) ∧ T' = [.un, .un]
def g_first_sentences : Cxt where
  N := ["sentences", "most", "found", "number"]
  sc := defScope (topS 7)
  tab := [("sentences", 0), ("most", 1), ("found", 2), ("number", 3)]
  loc := ["found", "number"]
  fnc := fun _ => true
  blt := ["range", "len"]
  fns := [("words_in_brief", 2, C_words_in_brief)]
  hid := []
  hfns := []
theorem w_first_sentences (a0 : (List (List Str))) (a1 : Int) (r : (List Int)) (hm : m_first_sentences a0 a1 = some r) : DSs g_first_sentences (defBody (topS 7)) [.dat (en (a0 : (List (List Str)))), .dat (en (a1 : Int)), .un, .un] (.ret (.dat (en (r : (List Int)))) [.un, .un, .un, .un]) := by
  unfold m_first_sentences at hm
  obtain ⟨v1, hv1, hm⟩ := bnd hm
  refine dss_cons (S1 := [.dat (en (a0 : (List (List Str)))), .dat (en (a1 : Int)), .dat (en (v1 : (List Int))), .un]) (ds_set (i := 2) (S1 := [.dat (en (a0 : (List (List Str)))), .dat (en (a1 : Int)), .un, .un]) rfl rfl (de_eq (d := en (([] : (List Int)) : (List Int))) (d1 := en (v1 : (List Int))) (de_tup (dd_nil)) (by rw [inj_s hv1]))) ?_
  obtain ⟨o9, ho9, hm⟩ := bnd hm
  refine dss_for (t0 := (v1 : (List Int))) (f := Enc.enc) (fun (t2 : (List Int)) => [.dat (en (a0 : (List (List Str)))), .dat (en (a1 : Int)), .dat (en (t2 : (List Int))), .un]) (fun (t2 : (List Int)) (x3 : Int) => [.dat (en (a0 : (List (List Str)))), .dat (en (a1 : Int)), .dat (en (t2 : (List Int))), .dat (en (x3 : Int))]) (fun (r : (List Int)) => .dat (en (r : (List Int)))) (fun (r : (List Int)) => [.un, .un, .un, .un]) (di_range1 rfl (de_lenTT (xs := (a0 : (List (List Str)))) rfl (de_var rfl rfl))) (show Wk [.dat (en (a0 : (List (List Str)))), .dat (en (a1 : Int)), .dat (en (v1 : (List Int))), .un] _ from (.eq (.eq (.eq (.eq .nil))))) (fun t2 x3 _ => dg_name (i := 3) rfl rfl) (fun t2 x3 out _ hm => ?_) ho9 (fun t10 ht => ?_) (fun r hr => ?_)
  · obtain ⟨u4, hu4, hm⟩ := bnd hm
    obtain ⟨r5, hr5, hm⟩ := bnd hm
    by_cases k6 : (decide (a1 < r5)) = true
    · have hm := ite_t hm k6
      refine dss_end (ds_if (dt_eq (dt_c (cr_gt) (de_call (d := (en (r5 : Int))) (C := C_words_in_brief) (n := 2) rfl (da_dat (de_var rfl rfl) (da_dat (de_catTT (xs := t2) (ys := ([x3] : (List Int))) (de_var rfl rfl) (de_tup (dd_cons (de_var rfl rfl) (dd_nil))) hu4) (da_nil))) (.dat (.dat .nil)) ⟨_, _, r5, hr5, rfl, rfl, rfl⟩ .none) (de_var rfl rfl)) k6) (fun _ => ?_) (fun z => by cases z)) (lv_of (by repeat (first | exact lv_ret | exact lv_bk | refine lv_bind fun _ => ?_ | refine lv_ite ?_ ?_ | refine lv_outC (fun _ => ?_) (fun _ => ?_))) hm)
      obtain rfl := inj_r hm
      exact dss_end (ds_le (S := _) (ds_ret (de_var rfl rfl)) (.ret (.un rfl (.un rfl (.un rfl (.un rfl .nil))))))
    have hm := ite_f hm (ne_t k6)
    refine dss_cons (ds_if (dt_eq (dt_c (cr_gt) (de_call (d := (en (r5 : Int))) (C := C_words_in_brief) (n := 2) rfl (da_dat (de_var rfl rfl) (da_dat (de_catTT (xs := t2) (ys := ([x3] : (List Int))) (de_var rfl rfl) (de_tup (dd_cons (de_var rfl rfl) (dd_nil))) hu4) (da_nil))) (.dat (.dat .nil)) ⟨_, _, r5, hr5, rfl, rfl, rfl⟩ .none) (de_var rfl rfl)) (ne_t k6)) (fun z => by cases z) (fun _ => dss_nil .refl)) ?_
    obtain ⟨u7, hu7, hm⟩ := bnd hm
    obtain ⟨v8, hv8, hm⟩ := bnd hm
    refine dss_cons (S1 := [.dat (en (a0 : (List (List Str)))), .dat (en (a1 : Int)), .dat (en (v8 : (List Int))), .dat (en (x3 : Int))]) (ds_eqS (ds_augTT (i := 2) (S1 := [.dat (en (a0 : (List (List Str)))), .dat (en (a1 : Int)), .dat (en (t2 : (List Int))), .dat (en (x3 : Int))]) (xs := (t2 : (List Int))) (ys := ([x3] : (List Int))) rfl rfl rfl (de_tup (dd_cons (de_var rfl rfl) (dd_nil))) hu7) (by rw [inj_s hv8]; rfl)) ?_
    obtain rfl := inj_r hm
    exact dss_nil (.eq (.eq (.eq (.un rfl .nil))))
  rotate_left
  · subst hr
    have hm := outC_ret hm
    have hm := inj_r hm
    subst hm
    rfl
  subst ht
  have hm := outC_nx hm
  obtain rfl := inj_r hm
  exact dss_end (ds_le (S := _) (ds_ret (de_var rfl rfl)) (.ret (.un rfl (.un rfl (.un rfl (.eq .nil))))))
theorem h_first_sentences {P : Program} {w : World} {K : PySem.W.Frag} {mg : Str → Option Value} {base : Heap} {k : Nat} {f : Addr} {fd : FuncData} (F : Fun K "first_sentences" "first_sentences" (topS 7) f fd) (hm : mg "first_sentences" = some (.ref f)) (hb : Binds K fd ["sentences", "most"] []) (z : ∀ x ∈ g_first_sentences.blt ++ g_first_sentences.hid, mg x = none) (H0 : Has P w K mg base k "words_in_brief" 2 C_words_in_brief) : Has P w K mg base (k + 1) "first_sentences" 2 C_first_sentences :=
  has_mk F hm hb (fn_ok F (N := ["sentences", "most", "found", "number"]) (G := g_first_sentences) ⟨rfl, rfl, rfl, by decide +kernel, rfl, by decide +kernel, by decide +kernel⟩ rfl (by decide +kernel) rfl rfl rfl z (fun x m C e => by
    have e := lookup_mem e
    simp only [g_first_sentences, List.cons_append, List.nil_append, List.mem_cons, List.not_mem_nil, Prod.mk.injEq, or_false] at e
    obtain ⟨rfl, rfl, rfl⟩ := e
    exact H0) (fun T r0 T' hC _ _ => by
      obtain ⟨a0, a1, r, hm, rfl, rfl, rfl⟩ := hC
      exact w_first_sentences _ _ _ hm) (fun T r0 T' hC => by
      obtain ⟨a0, a1, r, hm, rfl, rfl, rfl⟩ := hC
      exact ⟨Enc.pure _, fun s hs => by cases hs with | head => exact rfl | tail _ hs => exact (by cases hs with | head => exact rfl | tail _ hs => exact (by cases hs))⟩))
/-! ### _law_worth -/
def m__law_worth (a0 : (List (List Str))) (a1 : (List (T2 Str Int))) (a2 : (List Int)) : Option Int :=
  (loopF (fun (t1 : (List Str)) (x2 : Int) =>
  ((atI a0 x2).bind fun v3 =>
  (chkN (t1.length + v3.length)).bind fun u4 =>
  (some (t1 ++ v3)).bind fun v5 =>
  some v5 : Option (List Str))) ([] : List Str) a2).bind fun f6 =>
  some ((((List.filter (fun (x7 : (T2 Str Int)) => (decide (x7.a ∈ f6))) a1).map (fun (x7 : (T2 Str Int)) => (x7.b : Int))).sum : Int) : Int)
def m__law_worth_v2 (a0 : (List (List Str))) (a1 : (List (T2 Str Int))) (a2 : (List Int)) : Option Int :=
  (loopF (fun (t1 : (List Str)) (x2 : Int) =>
  ((atI a0 x2).bind fun v3 =>
  (chkN (t1.length + v3.length)).bind fun u4 =>
  (some (t1 ++ v3)).bind fun v5 =>
  some v5 : Option (List Str))) ([] : List Str) a2).bind fun f6 =>
  some ((((List.filter (fun (x7 : (T2 Str Int)) => (decide (x7.a ∈ f6))) a1).map (fun (x7 : (T2 Str Int)) => (x7.b : Int))).sum : Int) : Int)
def K__law_worth : Contract := fun T r0 T' => ∃ (a0 : (List (List Str))) (a1 : (List (T2 Str Int))) (a2 : (List Int)) (r : Int), m__law_worth a0 a1 a2 = some r ∧ T = [.dat (en (a0 : (List (List Str)))), .dat (en (a1 : (List (T2 Str Int)))), .dat (en (a2 : (List Int)))] ∧ r0 = .dat (en (r : Int)) ∧ T' = [.un, .un, .un]
def K__law_worth_v2 : Contract := fun T r0 T' => ∃ (a0 : (List (List Str))) (a1 : (List (T2 Str Int))) (a2 : (List Int)) (r : Int), m__law_worth_v2 a0 a1 a2 = some r ∧ T = [.dat (en (a0 : (List (List Str)))), .dat (en (a1 : (List (T2 Str Int)))), .bor (.lst (List.map Enc.enc (a2 : (List Int))))] ∧ r0 = .dat (en (r : Int)) ∧ T' = [.un, .un, .un]
def C__law_worth : Contract := fun T r0 T' => K__law_worth T r0 T' ∨ K__law_worth_v2 T r0 T'
def g__law_worth : Cxt where
  N := ["sentences", "table", "told", "words", "k", "pair"]
  sc := defScope (topS 16)
  tab := [("sentences", 0), ("table", 1), ("told", 2), ("words", 3), ("k", 4)]
  loc := ["words", "k"]
  fnc := fun _ => true
  blt := ["sum", "list"]
  fns := []
  hid := []
  hfns := []
theorem w__law_worth (a0 : (List (List Str))) (a1 : (List (T2 Str Int))) (a2 : (List Int)) (r : Int) (hm : m__law_worth a0 a1 a2 = some r) : DSs g__law_worth (defBody (topS 16)) [.dat (en (a0 : (List (List Str)))), .dat (en (a1 : (List (T2 Str Int)))), .dat (en (a2 : (List Int))), .un, .un, .un] (.ret (.dat (en (r : Int))) [.un, .un, .un, .un, .un, .un]) := by
  unfold m__law_worth at hm
  refine dss_cons (S1 := [.dat (en (a0 : (List (List Str)))), .dat (en (a1 : (List (T2 Str Int)))), .dat (en (a2 : (List Int))), .own (.lst (List.map Enc.enc (([] : List Str) : (List Str)))), .un, .un]) (ds_setO (i := 3) (S1 := [.dat (en (a0 : (List (List Str)))), .dat (en (a1 : (List (T2 Str Int)))), .dat (en (a2 : (List Int))), .un, .un, .un]) rfl rfl (df_lst (dd_nil))) ?_
  obtain ⟨f6, hf6, hm⟩ := bnd hm
  refine dss_cons (S1 := [.dat (en (a0 : (List (List Str)))), .dat (en (a1 : (List (T2 Str Int)))), .dat (en (a2 : (List Int))), .own (.lst (List.map Enc.enc (f6 : (List Str)))), .un, .un]) (ds_forF (t0 := (([] : List Str) : (List Str))) (f := Enc.enc) (fun (t1 : (List Str)) => [.dat (en (a0 : (List (List Str)))), .dat (en (a1 : (List (T2 Str Int)))), .dat (en (a2 : (List Int))), .own (.lst (List.map Enc.enc (t1 : (List Str)))), .un, .un]) (fun (t1 : (List Str)) (x2 : Int) => [.dat (en (a0 : (List (List Str)))), .dat (en (a1 : (List (T2 Str Int)))), .dat (en (a2 : (List Int))), .own (.lst (List.map Enc.enc (t1 : (List Str)))), .dat (en (x2 : Int)), .un]) (di_tup (de_var rfl rfl)) (show Wk [.dat (en (a0 : (List (List Str)))), .dat (en (a1 : (List (T2 Str Int)))), .dat (en (a2 : (List Int))), .own (.lst (List.map Enc.enc (([] : List Str) : (List Str)))), .un, .un] _ from (.eq (.eq (.eq (.eq (.eq (.eq .nil))))))) (fun t1 x2 _ => dg_name (i := 4) rfl rfl) (fun t1 x2 t' _ hm => ?_) hf6) ?_
  · obtain ⟨v3, hv3, hm⟩ := bnd hm
    obtain ⟨u4, hu4, hm⟩ := bnd hm
    obtain ⟨v5, hv5, hm⟩ := bnd hm
    refine dss_cons (S1 := [.dat (en (a0 : (List (List Str)))), .dat (en (a1 : (List (T2 Str Int)))), .dat (en (a2 : (List Int))), .own (.lst (List.map Enc.enc (v5 : (List Str)))), .dat (en (x2 : Int)), .un]) (ds_eqS (ds_setO (i := 3) (S1 := [.dat (en (a0 : (List (List Str)))), .dat (en (a1 : (List (T2 Str Int)))), .dat (en (a2 : (List Int))), .own (.lst (List.map Enc.enc (t1 : (List Str)))), .dat (en (x2 : Int)), .un]) rfl rfl (df_lend (i := 3) rfl (.inl rfl) (df_catBT (xs := (t1 : (List Str))) (ys := v3) (db_var rfl rfl) (db_new (df_listT rfl (de_ixTT (xs := (a0 : (List (List Str)))) (de_var rfl rfl) (de_var rfl rfl) hv3))) hu4) rfl)) (by rw [inj_s hv5]; rfl)) ?_
    obtain rfl := inj_r hm
    exact dss_nil (.eq (.eq (.eq (.eq (.un rfl (.eq .nil))))))
  obtain rfl := inj_r hm
  exact dss_end (ds_le (S := _) (ds_ret (de_sumL (xs := ((List.filter (fun (x7 : (T2 Str Int)) => (decide (x7.a ∈ f6))) a1).map (fun (x7 : (T2 Str Int)) => (x7.b : Int)))) rfl (db_new (df_lc (lc_okP (own := [("pair", 5)]) (tab := [("words", 3), ("pair", 5)]) (loc := ["pair"]) (f := Enc.enc) (h := Enc.enc) (xs := a1) (cd := fun (x7 : (T2 Str Int)) => (decide (x7.a ∈ f6))) (el := fun (x7 : (T2 Str Int)) => (x7.b : Int)) (tgt := fun x7 => [.dat (en (a0 : (List (List Str)))), .dat (en (a1 : (List (T2 Str Int)))), .dat (en (a2 : (List Int))), .own (.lst (List.map Enc.enc (f6 : (List Str)))), .un, .dat (en (x7 : (T2 Str Int)))]) (by decide +kernel) (by decide +kernel) (dz_tup (de_var rfl rfl)) rfl (by decide) (fun x7 _ => dg_name (i := 5) rfl rfl) (fun x7 _ => dts_one (dt_lend (i := 3) rfl (.inl rfl) (dt_cB (or_inTT (x := (x7.a : Str)) (xs := f6)) (de_ixT (ds := [en (x7).a, en (x7).b]) (d := en (x7).a) (de_var rfl rfl) (de_int) rfl) (db_var rfl rfl)) rfl)) (fun x7 _ _ => de_ixT (ds := [en (x7).a, en (x7).b]) (d := en (x7).b) (de_var rfl rfl) (de_int) rfl) (fun _ => rfl)))))) (.ret (.un rfl (.un rfl (.un rfl (.un rfl (.eq (.eq .nil))))))))
theorem w__law_worth_v2 (a0 : (List (List Str))) (a1 : (List (T2 Str Int))) (a2 : (List Int)) (r : Int) (hm : m__law_worth_v2 a0 a1 a2 = some r) : DSs g__law_worth (defBody (topS 16)) [.dat (en (a0 : (List (List Str)))), .dat (en (a1 : (List (T2 Str Int)))), .bor (.lst (List.map Enc.enc (a2 : (List Int)))), .un, .un, .un] (.ret (.dat (en (r : Int))) [.un, .un, .un, .un, .un, .un]) := by
  unfold m__law_worth_v2 at hm
  refine dss_cons (S1 := [.dat (en (a0 : (List (List Str)))), .dat (en (a1 : (List (T2 Str Int)))), .bor (.lst (List.map Enc.enc (a2 : (List Int)))), .own (.lst (List.map Enc.enc (([] : List Str) : (List Str)))), .un, .un]) (ds_setO (i := 3) (S1 := [.dat (en (a0 : (List (List Str)))), .dat (en (a1 : (List (T2 Str Int)))), .bor (.lst (List.map Enc.enc (a2 : (List Int)))), .un, .un, .un]) rfl rfl (df_lst (dd_nil))) ?_
  obtain ⟨f6, hf6, hm⟩ := bnd hm
  refine dss_cons (S1 := [.dat (en (a0 : (List (List Str)))), .dat (en (a1 : (List (T2 Str Int)))), .bor (.lst (List.map Enc.enc (a2 : (List Int)))), .own (.lst (List.map Enc.enc (f6 : (List Str)))), .un, .un]) (ds_forF (t0 := (([] : List Str) : (List Str))) (f := Enc.enc) (fun (t1 : (List Str)) => [.dat (en (a0 : (List (List Str)))), .dat (en (a1 : (List (T2 Str Int)))), .bor (.lst (List.map Enc.enc (a2 : (List Int)))), .own (.lst (List.map Enc.enc (t1 : (List Str)))), .un, .un]) (fun (t1 : (List Str)) (x2 : Int) => [.dat (en (a0 : (List (List Str)))), .dat (en (a1 : (List (T2 Str Int)))), .bor (.lst (List.map Enc.enc (a2 : (List Int)))), .own (.lst (List.map Enc.enc (t1 : (List Str)))), .dat (en (x2 : Int)), .un]) (di_list (db_var rfl rfl)) (show Wk [.dat (en (a0 : (List (List Str)))), .dat (en (a1 : (List (T2 Str Int)))), .bor (.lst (List.map Enc.enc (a2 : (List Int)))), .own (.lst (List.map Enc.enc (([] : List Str) : (List Str)))), .un, .un] _ from (.eq (.eq (.eq (.eq (.eq (.eq .nil))))))) (fun t1 x2 _ => dg_name (i := 4) rfl rfl) (fun t1 x2 t' _ hm => ?_) hf6) ?_
  · obtain ⟨v3, hv3, hm⟩ := bnd hm
    obtain ⟨u4, hu4, hm⟩ := bnd hm
    obtain ⟨v5, hv5, hm⟩ := bnd hm
    refine dss_cons (S1 := [.dat (en (a0 : (List (List Str)))), .dat (en (a1 : (List (T2 Str Int)))), .bor (.lst (List.map Enc.enc (a2 : (List Int)))), .own (.lst (List.map Enc.enc (v5 : (List Str)))), .dat (en (x2 : Int)), .un]) (ds_eqS (ds_setO (i := 3) (S1 := [.dat (en (a0 : (List (List Str)))), .dat (en (a1 : (List (T2 Str Int)))), .bor (.lst (List.map Enc.enc (a2 : (List Int)))), .own (.lst (List.map Enc.enc (t1 : (List Str)))), .dat (en (x2 : Int)), .un]) rfl rfl (df_lend (i := 3) rfl (.inl rfl) (df_catBT (xs := (t1 : (List Str))) (ys := v3) (db_var rfl rfl) (db_new (df_listT rfl (de_ixTT (xs := (a0 : (List (List Str)))) (de_var rfl rfl) (de_var rfl rfl) hv3))) hu4) rfl)) (by rw [inj_s hv5]; rfl)) ?_
    obtain rfl := inj_r hm
    exact dss_nil (.eq (.eq (.eq (.eq (.un rfl (.eq .nil))))))
  obtain rfl := inj_r hm
  exact dss_end (ds_le (S := _) (ds_ret (de_sumL (xs := ((List.filter (fun (x7 : (T2 Str Int)) => (decide (x7.a ∈ f6))) a1).map (fun (x7 : (T2 Str Int)) => (x7.b : Int)))) rfl (db_new (df_lc (lc_okP (own := [("pair", 5)]) (tab := [("words", 3), ("pair", 5)]) (loc := ["pair"]) (f := Enc.enc) (h := Enc.enc) (xs := a1) (cd := fun (x7 : (T2 Str Int)) => (decide (x7.a ∈ f6))) (el := fun (x7 : (T2 Str Int)) => (x7.b : Int)) (tgt := fun x7 => [.dat (en (a0 : (List (List Str)))), .dat (en (a1 : (List (T2 Str Int)))), .bor (.lst (List.map Enc.enc (a2 : (List Int)))), .own (.lst (List.map Enc.enc (f6 : (List Str)))), .un, .dat (en (x7 : (T2 Str Int)))]) (by decide +kernel) (by decide +kernel) (dz_tup (de_var rfl rfl)) rfl (by decide) (fun x7 _ => dg_name (i := 5) rfl rfl) (fun x7 _ => dts_one (dt_lend (i := 3) rfl (.inl rfl) (dt_cB (or_inTT (x := (x7.a : Str)) (xs := f6)) (de_ixT (ds := [en (x7).a, en (x7).b]) (d := en (x7).a) (de_var rfl rfl) (de_int) rfl) (db_var rfl rfl)) rfl)) (fun x7 _ _ => de_ixT (ds := [en (x7).a, en (x7).b]) (d := en (x7).b) (de_var rfl rfl) (de_int) rfl) (fun _ => rfl)))))) (.ret (.un rfl (.un rfl (.un rfl (.un rfl (.eq (.eq .nil))))))))
theorem h__law_worth {P : Program} {w : World} {K : PySem.W.Frag} {mg : Str → Option Value} {base : Heap} {k : Nat} {f : Addr} {fd : FuncData} (F : Fun K "_law_worth" "_law_worth" (topS 16) f fd) (hm : mg "_law_worth" = some (.ref f)) (hb : Binds K fd ["sentences", "table", "told"] []) (z : ∀ x ∈ g__law_worth.blt ++ g__law_worth.hid, mg x = none)  : Has P w K mg base (k + 1) "_law_worth" 3 C__law_worth :=
  has_mk F hm hb (fn_ok F (N := ["sentences", "table", "told", "words", "k", "pair"]) (G := g__law_worth) ⟨rfl, rfl, rfl, by decide +kernel, rfl, by decide +kernel, by decide +kernel⟩ rfl (by decide +kernel) rfl rfl rfl z (fun x m C e => by cases e) (fun T r0 T' hC _ _ => by
      rcases hC with ⟨a0, a1, a2, r, hm, rfl, rfl, rfl⟩ | ⟨a0, a1, a2, r, hm, rfl, rfl, rfl⟩
      · exact w__law_worth _ _ _ _ hm
      · exact w__law_worth_v2 _ _ _ _ hm) (fun T r0 T' hC => by
      rcases hC with ⟨a0, a1, a2, r, hm, rfl, rfl, rfl⟩ | ⟨a0, a1, a2, r, hm, rfl, rfl, rfl⟩
      · exact ⟨Enc.pure _, fun s hs => by cases hs with | head => exact rfl | tail _ hs => exact (by cases hs with | head => exact rfl | tail _ hs => exact (by cases hs with | head => exact rfl | tail _ hs => exact (by cases hs)))⟩
      · exact ⟨Enc.pure _, fun s hs => by cases hs with | head => exact rfl | tail _ hs => exact (by cases hs with | head => exact rfl | tail _ hs => exact (by cases hs with | head => exact rfl | tail _ hs => exact (by cases hs)))⟩))
/-! ### _law_long -/
def m__law_long (a0 : (List (List Str))) (a1 : (List Int)) : Option Int :=
  (compO (fun (x1 : Int) => (((atI a0 x1).bind fun v2 => some (some (v2.length : Int))) : Option (Option Int))) a1).bind fun l3 =>
  some ((l3.sum : Int) : Int)
def m__law_long_v2 (a0 : (List (List Str))) (a1 : (List Int)) : Option Int :=
  (compO (fun (x1 : Int) => (((atI a0 x1).bind fun v2 => some (some (v2.length : Int))) : Option (Option Int))) a1).bind fun l3 =>
  some ((l3.sum : Int) : Int)
def K__law_long : Contract := fun T r0 T' => ∃ (a0 : (List (List Str))) (a1 : (List Int)) (r : Int), m__law_long a0 a1 = some r ∧ T = [.dat (en (a0 : (List (List Str)))), .dat (en (a1 : (List Int)))] ∧ r0 = .dat (en (r : Int)) ∧ T' = [.un, .un]
def K__law_long_v2 : Contract := fun T r0 T' => ∃ (a0 : (List (List Str))) (a1 : (List Int)) (r : Int), m__law_long_v2 a0 a1 = some r ∧ T = [.dat (en (a0 : (List (List Str)))), .bor (.lst (List.map Enc.enc (a1 : (List Int))))] ∧ r0 = .dat (en (r : Int)) ∧ T' = [.un, .un]
def C__law_long : Contract := fun T r0 T' => K__law_long T r0 T' ∨ K__law_long_v2 T r0 T'
def g__law_long : Cxt where
  N := ["sentences", "told", "k"]
  sc := defScope (topS 17)
  tab := [("sentences", 0), ("told", 1)]
  loc := []
  fnc := fun _ => true
  blt := ["sum"]
  fns := []
  hid := ["len"]
  hfns := []
theorem w__law_long (a0 : (List (List Str))) (a1 : (List Int)) (r : Int) (hm : m__law_long a0 a1 = some r) : DSs g__law_long (defBody (topS 17)) [.dat (en (a0 : (List (List Str)))), .dat (en (a1 : (List Int))), .un] (.ret (.dat (en (r : Int))) [.un, .un, .un]) := by
  unfold m__law_long at hm
  obtain ⟨l3, hl3, hm⟩ := bnd hm
  obtain rfl := inj_r hm
  exact dss_end (ds_le (S := _) (ds_ret (de_sumL (xs := l3) rfl (db_new (df_lc (lc_okO (own := [("k", 2)]) (tab := [("sentences", 0), ("k", 2)]) (loc := ["k"]) (f := Enc.enc) (h := Enc.enc) (xs := a1) (tgt := fun x1 => [.dat (en (a0 : (List (List Str)))), .dat (en (a1 : (List Int))), .dat (en (x1 : Int))]) (by decide +kernel) (by decide +kernel) (dz_tup (de_var rfl rfl)) rfl (by decide) (fun x1 _ => dg_name (i := 2) rfl rfl) (fun x1 o _ hm => (by have hm := hm; obtain ⟨v2, hv2, hm⟩ := bnd hm; obtain rfl := inj_r hm; exact ⟨_, _, dts_nil, de_lenTT (xs := (v2 : (List Str))) rfl (de_ixTT (xs := (a0 : (List (List Str)))) (de_var rfl rfl) (de_var rfl rfl) hv2), rfl⟩)) hl3))))) (.ret (.un rfl (.un rfl (.eq .nil)))))
theorem w__law_long_v2 (a0 : (List (List Str))) (a1 : (List Int)) (r : Int) (hm : m__law_long_v2 a0 a1 = some r) : DSs g__law_long (defBody (topS 17)) [.dat (en (a0 : (List (List Str)))), .bor (.lst (List.map Enc.enc (a1 : (List Int)))), .un] (.ret (.dat (en (r : Int))) [.un, .un, .un]) := by
  unfold m__law_long_v2 at hm
  obtain ⟨l3, hl3, hm⟩ := bnd hm
  obtain rfl := inj_r hm
  exact dss_end (ds_le (S := _) (ds_ret (de_sumL (xs := l3) rfl (db_new (df_lc (lc_okO (own := [("k", 2)]) (tab := [("sentences", 0), ("k", 2)]) (loc := ["k"]) (f := Enc.enc) (h := Enc.enc) (xs := a1) (tgt := fun x1 => [.dat (en (a0 : (List (List Str)))), .bor (.lst (List.map Enc.enc (a1 : (List Int)))), .dat (en (x1 : Int))]) (by decide +kernel) (by decide +kernel) (dz_list (db_var rfl rfl)) rfl (by decide) (fun x1 _ => dg_name (i := 2) rfl rfl) (fun x1 o _ hm => (by have hm := hm; obtain ⟨v2, hv2, hm⟩ := bnd hm; obtain rfl := inj_r hm; exact ⟨_, _, dts_nil, de_lenTT (xs := (v2 : (List Str))) rfl (de_ixTT (xs := (a0 : (List (List Str)))) (de_var rfl rfl) (de_var rfl rfl) hv2), rfl⟩)) hl3))))) (.ret (.un rfl (.un rfl (.eq .nil)))))
theorem h__law_long {P : Program} {w : World} {K : PySem.W.Frag} {mg : Str → Option Value} {base : Heap} {k : Nat} {f : Addr} {fd : FuncData} (F : Fun K "_law_long" "_law_long" (topS 17) f fd) (hm : mg "_law_long" = some (.ref f)) (hb : Binds K fd ["sentences", "told"] []) (z : ∀ x ∈ g__law_long.blt ++ g__law_long.hid, mg x = none)  : Has P w K mg base (k + 1) "_law_long" 2 C__law_long :=
  has_mk F hm hb (fn_ok F (N := ["sentences", "told", "k"]) (G := g__law_long) ⟨rfl, rfl, rfl, by decide +kernel, rfl, by decide +kernel, by decide +kernel⟩ rfl (by decide +kernel) rfl rfl rfl z (fun x m C e => by cases e) (fun T r0 T' hC _ _ => by
      rcases hC with ⟨a0, a1, r, hm, rfl, rfl, rfl⟩ | ⟨a0, a1, r, hm, rfl, rfl, rfl⟩
      · exact w__law_long _ _ _ hm
      · exact w__law_long_v2 _ _ _ hm) (fun T r0 T' hC => by
      rcases hC with ⟨a0, a1, r, hm, rfl, rfl, rfl⟩ | ⟨a0, a1, r, hm, rfl, rfl, rfl⟩
      · exact ⟨Enc.pure _, fun s hs => by cases hs with | head => exact rfl | tail _ hs => exact (by cases hs with | head => exact rfl | tail _ hs => exact (by cases hs))⟩
      · exact ⟨Enc.pure _, fun s hs => by cases hs with | head => exact rfl | tail _ hs => exact (by cases hs with | head => exact rfl | tail _ hs => exact (by cases hs))⟩))
/-! ### _law_greedy -/
def m__law_greedy (a0 : (List (List Str))) (a1 : (List (T2 Str Int))) (a2 : Int) : Option (List Int) :=
  (loopM (fun (t1 : (List Int)) (x2 : Int) =>
  ((m__law_worth_v2 a0 a1 t1).bind fun r3 =>
  (some ((none : (Option (T2 Int Int))) : (Option (T2 Int Int)))).bind fun v4 =>
  (loopF (fun (t5 : (Option (T2 Int Int))) (x6 : Int) =>
  ((chkN (t1.length + ([x6] : List Int).length)).bind fun u7 =>
  (m__law_worth_v2 a0 a1 (t1 ++ ([x6] : List Int))).bind fun r8 =>
  (some ((r8 - r3) : Int)).bind fun v9 =>
  ((if (!decide (x6 ∈ t1)) = true then ((chkN (t1.length + ([x6] : List Int).length)).bind fun u10 => (m__law_long_v2 a0 (t1 ++ ([x6] : List Int))).bind fun r11 => ((if (decide (r11 ≤ a2)) = true then (((if (decide ((0 : Int) < v9)) = true then (((if t5.isNone = true then some true else ((t5).bind fun v12 => some (decide (v12.a < v9))))).bind fun v13 => some v13) else some false)).bind fun v14 => some v14) else some false)).bind fun v15 => some v15) else some false)).bind fun v16 =>
  ((if v16 = true then
    ((some ((some (⟨v9, x6⟩ : (T2 Int Int)) : (Option (T2 Int Int))) : (Option (T2 Int Int)))).bind fun v18 =>
    some v18)
  else
    (some t5) : Option (Option (T2 Int Int)))).bind fun j19 =>
  some j19 : Option (Option (T2 Int Int)))) v4 (rng 0 (a0.length : Int))).bind fun f20 =>
  if f20.isNone = true then
    (some (.bk t1))
  else
    ((f20).bind fun v22 =>
    (chkN t1.length).bind fun u23 =>
    some (.nx (t1 ++ [v22.b]))) : Option (Out Empty (List Int)))) ([] : List Int) (rng 0 (a0.length : Int))).bind fun o24 =>
  outC o24 (fun r => r.elim) fun t25 =>
  some ((sortE t25) : (List Int))
def C__law_greedy : Contract := fun T r0 T' => ∃ (a0 : (List (List Str))) (a1 : (List (T2 Str Int))) (a2 : Int) (r : (List Int)), m__law_greedy a0 a1 a2 = some r ∧ T = [.dat (en (a0 : (List (List Str)))), .dat (en (a1 : (List (T2 Str Int)))), .dat (en (a2 : Int))] ∧ r0 = .dat (en (r : (List Int))) ∧ T' = [.un, .un, .un]
def g__law_greedy : Cxt where
  N := ["sentences", "table", "most", "found", "step", "now", "best", "k", "more"]
  sc := defScope (topS 18)
  tab := [("sentences", 0), ("table", 1), ("most", 2), ("found", 3), ("step", 4), ("now", 5), ("best", 6), ("k", 7), ("more", 8)]
  loc := ["found", "step", "now", "best", "k", "more"]
  fnc := fun _ => true
  blt := ["range", "tuple", "len", "sorted"]
  fns := [("_law_worth", 3, C__law_worth), ("_law_long", 2, C__law_long)]
  hid := []
  hfns := []
theorem w__law_greedy (a0 : (List (List Str))) (a1 : (List (T2 Str Int))) (a2 : Int) (r : (List Int)) (hm : m__law_greedy a0 a1 a2 = some r) : DSs g__law_greedy (defBody (topS 18)) [.dat (en (a0 : (List (List Str)))), .dat (en (a1 : (List (T2 Str Int)))), .dat (en (a2 : Int)), .un, .un, .un, .un, .un, .un] (.ret (.dat (en (r : (List Int)))) [.un, .un, .un, .un, .un, .un, .un, .un, .un]) := by
  unfold m__law_greedy at hm
  refine dss_cons (S1 := [.dat (en (a0 : (List (List Str)))), .dat (en (a1 : (List (T2 Str Int)))), .dat (en (a2 : Int)), .own (.lst (List.map Enc.enc (([] : List Int) : (List Int)))), .un, .un, .un, .un, .un]) (ds_setO (i := 3) (S1 := [.dat (en (a0 : (List (List Str)))), .dat (en (a1 : (List (T2 Str Int)))), .dat (en (a2 : Int)), .un, .un, .un, .un, .un, .un]) rfl rfl (df_lst (dd_nil))) ?_
  obtain ⟨o24, ho24, hm⟩ := bnd hm
  refine dss_for (t0 := (([] : List Int) : (List Int))) (f := Enc.enc) (fun (t1 : (List Int)) => [.dat (en (a0 : (List (List Str)))), .dat (en (a1 : (List (T2 Str Int)))), .dat (en (a2 : Int)), .own (.lst (List.map Enc.enc (t1 : (List Int)))), .un, .un, .un, .un, .un]) (fun (t1 : (List Int)) (x2 : Int) => [.dat (en (a0 : (List (List Str)))), .dat (en (a1 : (List (T2 Str Int)))), .dat (en (a2 : Int)), .own (.lst (List.map Enc.enc (t1 : (List Int)))), .dat (en (x2 : Int)), .un, .un, .un, .un]) (fun (r : Empty) => .dat (.int 0)) (fun (r : Empty) => []) (di_range1 rfl (de_lenTT (xs := (a0 : (List (List Str)))) rfl (de_var rfl rfl))) (show Wk [.dat (en (a0 : (List (List Str)))), .dat (en (a1 : (List (T2 Str Int)))), .dat (en (a2 : Int)), .own (.lst (List.map Enc.enc (([] : List Int) : (List Int)))), .un, .un, .un, .un, .un] _ from (.eq (.eq (.eq (.eq (.eq (.eq (.eq (.eq (.eq .nil)))))))))) (fun t1 x2 _ => dg_name (i := 4) rfl rfl) (fun t1 x2 out _ hm => ?_) ho24 (fun t25 ht => ?_) (fun r hr => ?_)
  · obtain ⟨r3, hr3, hm⟩ := bnd hm
    refine dss_cons (S1 := [.dat (en (a0 : (List (List Str)))), .dat (en (a1 : (List (T2 Str Int)))), .dat (en (a2 : Int)), .own (.lst (List.map Enc.enc (t1 : (List Int)))), .dat (en (x2 : Int)), .dat (en (r3 : Int)), .un, .un, .un]) (ds_set (i := 5) (S1 := [.dat (en (a0 : (List (List Str)))), .dat (en (a1 : (List (T2 Str Int)))), .dat (en (a2 : Int)), .own (.lst (List.map Enc.enc (t1 : (List Int)))), .dat (en (x2 : Int)), .un, .un, .un, .un]) rfl rfl (d := en (r3 : Int)) (de_call (d := (en (r3 : Int))) (C := C__law_worth) (n := 3) rfl (da_dat (de_var rfl rfl) (da_dat (de_var rfl rfl) (da_slot (i := 3) rfl rfl rfl (da_nil)))) (.dat (.dat (.bor rfl rfl (by decide) .nil))) (.inr (⟨_, _, _, r3, hr3, rfl, rfl, rfl⟩)) .none)) ?_
    obtain ⟨v4, hv4, hm⟩ := bnd hm
    refine dss_cons (S1 := [.dat (en (a0 : (List (List Str)))), .dat (en (a1 : (List (T2 Str Int)))), .dat (en (a2 : Int)), .own (.lst (List.map Enc.enc (t1 : (List Int)))), .dat (en (x2 : Int)), .dat (en (r3 : Int)), .dat (en (v4 : (Option (T2 Int Int)))), .un, .un]) (ds_set (i := 6) (S1 := [.dat (en (a0 : (List (List Str)))), .dat (en (a1 : (List (T2 Str Int)))), .dat (en (a2 : Int)), .own (.lst (List.map Enc.enc (t1 : (List Int)))), .dat (en (x2 : Int)), .dat (en (r3 : Int)), .un, .un, .un]) rfl rfl (de_eq (d := en ((none : (Option (T2 Int Int))) : (Option (T2 Int Int)))) (d1 := en (v4 : (Option (T2 Int Int)))) (de_non) (by rw [inj_s hv4]))) ?_
    obtain ⟨f20, hf20, hm⟩ := bnd hm
    refine dss_cons (S1 := [.dat (en (a0 : (List (List Str)))), .dat (en (a1 : (List (T2 Str Int)))), .dat (en (a2 : Int)), .own (.lst (List.map Enc.enc (t1 : (List Int)))), .dat (en (x2 : Int)), .dat (en (r3 : Int)), .dat (en (f20 : (Option (T2 Int Int)))), .un, .un]) (ds_forF (t0 := (v4 : (Option (T2 Int Int)))) (f := Enc.enc) (fun (t5 : (Option (T2 Int Int))) => [.dat (en (a0 : (List (List Str)))), .dat (en (a1 : (List (T2 Str Int)))), .dat (en (a2 : Int)), .own (.lst (List.map Enc.enc (t1 : (List Int)))), .dat (en (x2 : Int)), .dat (en (r3 : Int)), .dat (en (t5 : (Option (T2 Int Int)))), .un, .un]) (fun (t5 : (Option (T2 Int Int))) (x6 : Int) => [.dat (en (a0 : (List (List Str)))), .dat (en (a1 : (List (T2 Str Int)))), .dat (en (a2 : Int)), .own (.lst (List.map Enc.enc (t1 : (List Int)))), .dat (en (x2 : Int)), .dat (en (r3 : Int)), .dat (en (t5 : (Option (T2 Int Int)))), .dat (en (x6 : Int)), .un]) (di_range1 rfl (de_lenTT (xs := (a0 : (List (List Str)))) rfl (de_var rfl rfl))) (show Wk [.dat (en (a0 : (List (List Str)))), .dat (en (a1 : (List (T2 Str Int)))), .dat (en (a2 : Int)), .own (.lst (List.map Enc.enc (t1 : (List Int)))), .dat (en (x2 : Int)), .dat (en (r3 : Int)), .dat (en (v4 : (Option (T2 Int Int)))), .un, .un] _ from (.eq (.eq (.eq (.eq (.eq (.eq (.eq (.eq (.eq .nil)))))))))) (fun t5 x6 _ => dg_name (i := 7) rfl rfl) (fun t5 x6 t' _ hm => ?_) hf20) ?_
    · obtain ⟨u7, hu7, hm⟩ := bnd hm
      obtain ⟨r8, hr8, hm⟩ := bnd hm
      obtain ⟨v9, hv9, hm⟩ := bnd hm
      refine dss_cons (S1 := [.dat (en (a0 : (List (List Str)))), .dat (en (a1 : (List (T2 Str Int)))), .dat (en (a2 : Int)), .own (.lst (List.map Enc.enc (t1 : (List Int)))), .dat (en (x2 : Int)), .dat (en (r3 : Int)), .dat (en (t5 : (Option (T2 Int Int)))), .dat (en (x6 : Int)), .dat (en (v9 : Int))]) (ds_set (i := 8) (S1 := [.dat (en (a0 : (List (List Str)))), .dat (en (a1 : (List (T2 Str Int)))), .dat (en (a2 : Int)), .own (.lst (List.map Enc.enc (t1 : (List Int)))), .dat (en (x2 : Int)), .dat (en (r3 : Int)), .dat (en (t5 : (Option (T2 Int Int)))), .dat (en (x6 : Int)), .un]) rfl rfl (de_eq (d := en ((r8 - r3) : Int)) (d1 := en (v9 : Int)) (de_sub (de_call (d := (en (r8 : Int))) (C := C__law_worth) (n := 3) rfl (da_dat (de_var rfl rfl) (da_dat (de_var rfl rfl) (da_rd (db_new (df_lend (i := 3) rfl (.inl rfl) (df_catBT (xs := (t1 : (List Int))) (ys := ([x6] : List Int)) (db_var rfl rfl) (db_new (df_lst (dd_cons (de_var rfl rfl) (dd_nil)))) hu7) rfl)) (da_nil)))) (.dat (.dat (.rd .nil))) (.inr (⟨_, _, _, r8, hr8, rfl, rfl, rfl⟩)) .none) (de_var rfl rfl)) (by rw [inj_s hv9]))) ?_
      obtain ⟨v16, hv16, hm⟩ := bnd hm
      obtain ⟨j19, hj19, hm⟩ := bnd hm
      refine dss_cons (S1 := [.dat (en (a0 : (List (List Str)))), .dat (en (a1 : (List (T2 Str Int)))), .dat (en (a2 : Int)), .own (.lst (List.map Enc.enc (t1 : (List Int)))), .dat (en (x2 : Int)), .dat (en (r3 : Int)), .dat (en (j19 : (Option (T2 Int Int)))), .dat (en (x6 : Int)), .dat (en (v9 : Int))]) (ds_if (dt_w (dw_and (k2 := v16) (S2 := [.dat (en (a0 : (List (List Str)))), .dat (en (a1 : (List (T2 Str Int)))), .dat (en (a2 : Int)), .own (.lst (List.map Enc.enc (t1 : (List Int)))), .dat (en (x2 : Int)), .dat (en (r3 : Int)), .dat (en (t5 : (Option (T2 Int Int)))), .dat (en (x6 : Int)), .dat (en (v9 : Int))]) (dt_lend (i := 3) rfl (.inl rfl) (dt_cB (or_ninTT (x := (x6 : Int)) (xs := t1)) (de_var rfl rfl) (db_var rfl rfl)) rfl) (fun z => by have hm := ite_t hv16 z; obtain ⟨u10, hu10, hm⟩ := bnd hm; obtain ⟨r11, hr11, hm⟩ := bnd hm; obtain ⟨v15, hv15, hm⟩ := bnd hm; obtain rfl := inj_r hm; exact (dw_and (k2 := v15) (S2 := [.dat (en (a0 : (List (List Str)))), .dat (en (a1 : (List (T2 Str Int)))), .dat (en (a2 : Int)), .own (.lst (List.map Enc.enc (t1 : (List Int)))), .dat (en (x2 : Int)), .dat (en (r3 : Int)), .dat (en (t5 : (Option (T2 Int Int)))), .dat (en (x6 : Int)), .dat (en (v9 : Int))]) (dt_c (cr_le) (de_call (d := (en (r11 : Int))) (C := C__law_long) (n := 2) rfl (da_dat (de_var rfl rfl) (da_rd (db_new (df_lend (i := 3) rfl (.inl rfl) (df_catBT (xs := (t1 : (List Int))) (ys := ([x6] : List Int)) (db_var rfl rfl) (db_new (df_lst (dd_cons (de_var rfl rfl) (dd_nil)))) hu10) rfl)) (da_nil))) (.dat (.rd .nil)) (.inr (⟨_, _, r11, hr11, rfl, rfl, rfl⟩)) .none) (de_var rfl rfl)) (fun z => by have hm := ite_t hv15 z; obtain ⟨v14, hv14, hm⟩ := bnd hm; obtain rfl := inj_r hm; exact (dw_and (k2 := v14) (S2 := [.dat (en (a0 : (List (List Str)))), .dat (en (a1 : (List (T2 Str Int)))), .dat (en (a2 : Int)), .own (.lst (List.map Enc.enc (t1 : (List Int)))), .dat (en (x2 : Int)), .dat (en (r3 : Int)), .dat (en (t5 : (Option (T2 Int Int)))), .dat (en (x6 : Int)), .dat (en (v9 : Int))]) (dt_c (cr_gt) (de_var rfl rfl) (de_int)) (fun z => by have hm := ite_t hv14 z; obtain ⟨v13, hv13, hm⟩ := bnd hm; obtain rfl := inj_r hm; exact (dw_and1 (dt_w (dw_or (k2 := v13) (S2 := [.dat (en (a0 : (List (List Str)))), .dat (en (a1 : (List (T2 Str Int)))), .dat (en (a2 : Int)), .own (.lst (List.map Enc.enc (t1 : (List Int)))), .dat (en (x2 : Int)), .dat (en (r3 : Int)), .dat (en (t5 : (Option (T2 Int Int)))), .dat (en (x6 : Int)), .dat (en (v9 : Int))]) (dt_eq (dt_c (cr_isN) (de_var rfl rfl) de_non) (by rw [isNon_O] <;> rfl)) (fun z => by have hm := ite_f hv13 z; obtain ⟨v12, hv12, hm⟩ := bnd hm; obtain rfl := inj_r hm; exact (dw_or1 (dt_c (cr_gt) (de_var rfl rfl) (de_ixT (ds := [en (v12).a, en (v12).b]) (d := en (v12).a) (de_eq (d := en (t5 : (Option (T2 Int Int)))) (d1 := en (v12 : (T2 Int Int))) (de_var rfl rfl) (by rw [hv12]; rfl)) (de_int) rfl)))) (fun z => by have hm := ite_t hv13 z; obtain rfl := inj_r hm; exact ⟨rfl, rfl⟩))))) (fun z => by have hm := ite_f hv14 z; obtain rfl := inj_r hm; exact ⟨rfl, rfl⟩))) (fun z => by have hm := ite_f hv15 z; obtain rfl := inj_r hm; exact ⟨rfl, rfl⟩))) (fun z => by have hm := ite_f hv16 z; obtain rfl := inj_r hm; exact ⟨rfl, rfl⟩))) (fun z => ?_) (fun z => ?_)) ?_
      · clear hm
        have hm := ite_t hj19 z
        obtain ⟨v18, hv18, hm⟩ := bnd hm
        refine dss_cons (S1 := [.dat (en (a0 : (List (List Str)))), .dat (en (a1 : (List (T2 Str Int)))), .dat (en (a2 : Int)), .own (.lst (List.map Enc.enc (t1 : (List Int)))), .dat (en (x2 : Int)), .dat (en (r3 : Int)), .dat (en (v18 : (Option (T2 Int Int)))), .dat (en (x6 : Int)), .dat (en (v9 : Int))]) (ds_set (i := 6) (S1 := [.dat (en (a0 : (List (List Str)))), .dat (en (a1 : (List (T2 Str Int)))), .dat (en (a2 : Int)), .own (.lst (List.map Enc.enc (t1 : (List Int)))), .dat (en (x2 : Int)), .dat (en (r3 : Int)), .dat (en (t5 : (Option (T2 Int Int)))), .dat (en (x6 : Int)), .dat (en (v9 : Int))]) rfl rfl (de_eq (d := en ((some (⟨v9, x6⟩ : (T2 Int Int)) : (Option (T2 Int Int))) : (Option (T2 Int Int)))) (d1 := en (v18 : (Option (T2 Int Int)))) (de_tup (dd_cons (de_var rfl rfl) (dd_cons (de_var rfl rfl) (dd_nil)))) (by rw [inj_s hv18]))) ?_
        obtain rfl := inj_r hm
        exact dss_nil (.eq (.eq (.eq (.eq (.eq (.eq (.eq (.eq (.eq .nil)))))))))
      · clear hm
        have hm := ite_f hj19 z
        obtain rfl := inj_r hm
        exact dss_nil (.eq (.eq (.eq (.eq (.eq (.eq (.eq (.eq (.eq .nil)))))))))
      obtain rfl := inj_r hm
      exact dss_nil (.eq (.eq (.eq (.eq (.eq (.eq (.eq (.un rfl (.un rfl .nil)))))))))
    by_cases k21 : f20.isNone = true
    · have hm := ite_t hm k21
      refine dss_end (ds_if (dt_eq (dt_eq (dt_c (cr_isN) (de_var rfl rfl) de_non) (by rw [isNon_O] <;> rfl)) k21) (fun _ => ?_) (fun z => by cases z)) (lv_of (by repeat (first | exact lv_ret | exact lv_bk | refine lv_bind fun _ => ?_ | refine lv_ite ?_ ?_ | refine lv_outC (fun _ => ?_) (fun _ => ?_))) hm)
      obtain rfl := inj_r hm
      exact dss_end (ds_le ds_break (.bk (.eq (.eq (.eq (.eq (.un rfl (.un rfl (.un rfl (.eq (.eq .nil)))))))))))
    have hm := ite_f hm (ne_t k21)
    refine dss_cons (ds_if (dt_eq (dt_eq (dt_c (cr_isN) (de_var rfl rfl) de_non) (by rw [isNon_O] <;> rfl)) (ne_t k21)) (fun z => by cases z) (fun _ => dss_nil .refl)) ?_
    obtain ⟨v22, hv22, hm⟩ := bnd hm
    obtain ⟨u23, hu23, hm⟩ := bnd hm
    refine dss_cons (S1 := [.dat (en (a0 : (List (List Str)))), .dat (en (a1 : (List (T2 Str Int)))), .dat (en (a2 : Int)), .own (.lst (List.map Enc.enc ((t1 ++ [v22.b]) : (List Int)))), .dat (en (x2 : Int)), .dat (en (r3 : Int)), .dat (en (f20 : (Option (T2 Int Int)))), .un, .un]) (ds_expr (de_appendT (i := 3) (xs := (t1 : (List Int))) (y := v22.b) rfl rfl .own (de_ixT (ds := [en (v22).a, en (v22).b]) (d := en (v22).b) (de_eq (d := en (f20 : (Option (T2 Int Int)))) (d1 := en (v22 : (T2 Int Int))) (de_var rfl rfl) (by rw [hv22]; rfl)) (de_int) rfl) rfl .own hu23)) ?_
    obtain rfl := inj_r hm
    exact dss_nil (.eq (.eq (.eq (.eq (.un rfl (.un rfl (.un rfl (.eq (.eq .nil)))))))))
  rotate_left
  · exact r.elim
  subst ht
  have hm := outC_nx hm
  obtain rfl := inj_r hm
  exact dss_end (ds_le (S := _) (ds_ret (de_tupL (ds := List.map Enc.enc ((sortE t25) : (List Int))) rfl (db_new (df_lend (i := 3) rfl (.inl rfl) (df_sortL (xs := (t25 : (List Int))) rfl (db_var rfl rfl)) rfl)))) (.ret (.un rfl (.un rfl (.un rfl (.un rfl (.eq (.eq (.eq (.eq (.eq .nil)))))))))))
theorem h__law_greedy {P : Program} {w : World} {K : PySem.W.Frag} {mg : Str → Option Value} {base : Heap} {k : Nat} {f : Addr} {fd : FuncData} (F : Fun K "_law_greedy" "_law_greedy" (topS 18) f fd) (hm : mg "_law_greedy" = some (.ref f)) (hb : Binds K fd ["sentences", "table", "most"] []) (z : ∀ x ∈ g__law_greedy.blt ++ g__law_greedy.hid, mg x = none) (H0 : Has P w K mg base k "_law_worth" 3 C__law_worth) (H1 : Has P w K mg base k "_law_long" 2 C__law_long) : Has P w K mg base (k + 1) "_law_greedy" 3 C__law_greedy :=
  has_mk F hm hb (fn_ok F (N := ["sentences", "table", "most", "found", "step", "now", "best", "k", "more"]) (G := g__law_greedy) ⟨rfl, rfl, rfl, by decide +kernel, rfl, by decide +kernel, by decide +kernel⟩ rfl (by decide +kernel) rfl rfl rfl z (fun x m C e => by
    have e := lookup_mem e
    simp only [g__law_greedy, List.cons_append, List.nil_append, List.mem_cons, List.not_mem_nil, Prod.mk.injEq, or_false] at e
    rcases e with ⟨rfl, rfl, rfl⟩ | ⟨rfl, rfl, rfl⟩
    · exact H0
    · exact H1) (fun T r0 T' hC _ _ => by
      obtain ⟨a0, a1, a2, r, hm, rfl, rfl, rfl⟩ := hC
      exact w__law_greedy _ _ _ _ hm) (fun T r0 T' hC => by
      obtain ⟨a0, a1, a2, r, hm, rfl, rfl, rfl⟩ := hC
      exact ⟨Enc.pure _, fun s hs => by cases hs with | head => exact rfl | tail _ hs => exact (by cases hs with | head => exact rfl | tail _ hs => exact (by cases hs with | head => exact rfl | tail _ hs => exact (by cases hs)))⟩))
/-! ### greedy_brief -/
def m_greedy_brief (fuel : Nat) (a0 : (List (List Str))) (a1 : (List (T2 Str Int))) (a2 : Int) : Option (List Int) :=
  (some (([] : (List Int)) : (List Int))).bind fun v1 =>
  (whileF (fun (t2 : ((List Int) × Bool)) => (some t2.2 : Option Bool)) (fun (t2 : ((List Int) × Bool)) =>
  ((loopF (fun (t3 : (List (T2 Int Int))) (x4 : Int) =>
  ((chkN (t2.1.length + ([x4] : (List Int)).length)).bind fun u5 =>
  (some ((sortE (t2.1 ++ ([x4] : (List Int)))) : (List Int))).bind fun v6 =>
  (m_worth_of_brief a0 a1 v6).bind fun r7 =>
  (m_worth_of_brief a0 a1 t2.1).bind fun r8 =>
  (some ((r7 - r8) : Int)).bind fun v9 =>
  ((if (!decide (x4 ∈ t2.1)) = true then ((m_words_in_brief a0 v6).bind fun r10 => some ((decide (r10 ≤ a2)) && (decide ((0 : Int) < v9)))) else some false)).bind fun v11 =>
  ((if v11 = true then
    ((chkN t3.length).bind fun u13 =>
    some (t3 ++ [(⟨(-v9), x4⟩ : (T2 Int Int))]))
  else
    (some t3) : Option (List (T2 Int Int)))).bind fun j14 =>
  some j14 : Option (List (T2 Int Int)))) ([] : List (T2 Int Int)) (rng 0 (a0.length : Int))).bind fun f15 =>
  (some ((decide ((0 : Int) < (f15.length : Int))) : Bool)).bind fun v16 =>
  ((if v16 = true then
    ((minE (f15 : (List (T2 Int Int)))).bind fun v18 =>
    (chkN (t2.1.length + ([v18.b] : (List Int)).length)).bind fun u19 =>
    (some ((sortE (t2.1 ++ ([v18.b] : (List Int)))) : (List Int))).bind fun v20 =>
    some v20)
  else
    (some t2.1) : Option (List Int))).bind fun j21 =>
  some (.nx (j21, v16)) : Option (Out Empty ((List Int) × Bool)))) fuel (v1, true)).bind fun f22 =>
  some (f22.1 : (List Int))
def C_greedy_brief : Contract := fun T r0 T' => ∃ (fuel : Nat) (a0 : (List (List Str))) (a1 : (List (T2 Str Int))) (a2 : Int) (r : (List Int)), m_greedy_brief fuel a0 a1 a2 = some r ∧ T = [.dat (en (a0 : (List (List Str)))), .dat (en (a1 : (List (T2 Str Int)))), .dat (en (a2 : Int))] ∧ r0 = .dat (en (r : (List Int))) ∧ T' = [.un, .un, .un]
def g_greedy_brief : Cxt where
  N := ["sentences", "table", "most", "found", "added", "told", "number", "longer", "gain"]
  sc := defScope (topS 5)
  tab := [("sentences", 0), ("table", 1), ("most", 2), ("found", 3), ("added", 4), ("told", 5), ("number", 6), ("longer", 7), ("gain", 8)]
  loc := ["found", "added", "told", "number", "longer", "gain"]
  fnc := fun _ => true
  blt := ["range", "len", "tuple", "sorted", "min"]
  fns := [("worth_of_brief", 3, C_worth_of_brief), ("words_in_brief", 2, C_words_in_brief)]
  hid := []
  hfns := []
theorem w_greedy_brief (fuel : Nat) (a0 : (List (List Str))) (a1 : (List (T2 Str Int))) (a2 : Int) (r : (List Int)) (hm : m_greedy_brief fuel a0 a1 a2 = some r) : DSs g_greedy_brief (defBody (topS 5)) [.dat (en (a0 : (List (List Str)))), .dat (en (a1 : (List (T2 Str Int)))), .dat (en (a2 : Int)), .un, .un, .un, .un, .un, .un] (.ret (.dat (en (r : (List Int)))) [.un, .un, .un, .un, .un, .un, .un, .un, .un]) := by
  unfold m_greedy_brief at hm
  obtain ⟨v1, hv1, hm⟩ := bnd hm
  refine dss_cons (S1 := [.dat (en (a0 : (List (List Str)))), .dat (en (a1 : (List (T2 Str Int)))), .dat (en (a2 : Int)), .dat (en (v1 : (List Int))), .un, .un, .un, .un, .un]) (ds_set (i := 3) (S1 := [.dat (en (a0 : (List (List Str)))), .dat (en (a1 : (List (T2 Str Int)))), .dat (en (a2 : Int)), .un, .un, .un, .un, .un, .un]) rfl rfl (de_eq (d := en (([] : (List Int)) : (List Int))) (d1 := en (v1 : (List Int))) (de_tup (dd_nil)) (by rw [inj_s hv1]))) ?_
  refine dss_cons (S1 := [.dat (en (a0 : (List (List Str)))), .dat (en (a1 : (List (T2 Str Int)))), .dat (en (a2 : Int)), .dat (en (v1 : (List Int))), .dat (en (true : Bool)), .un, .un, .un, .un]) (ds_set (i := 4) (S1 := [.dat (en (a0 : (List (List Str)))), .dat (en (a1 : (List (T2 Str Int)))), .dat (en (a2 : Int)), .dat (en (v1 : (List Int))), .un, .un, .un, .un, .un]) rfl rfl (d := en (true : Bool)) (de_bl)) ?_
  obtain ⟨f22, hf22, hm⟩ := bnd hm
  refine dss_cons (S1 := [.dat (en (a0 : (List (List Str)))), .dat (en (a1 : (List (T2 Str Int)))), .dat (en (a2 : Int)), .dat (en (f22.1 : (List Int))), .dat (en (f22.2 : Bool)), .un, .un, .un, .un]) (ds_whileF (fun (t2 : ((List Int) × Bool)) => [.dat (en (a0 : (List (List Str)))), .dat (en (a1 : (List (T2 Str Int)))), .dat (en (a2 : Int)), .dat (en (t2.1 : (List Int))), .dat (en (t2.2 : Bool)), .un, .un, .un, .un]) (.eq (.eq (.eq (.eq (.eq (.eq (.eq (.eq (.eq .nil))))))))) (fun t2 b hm => ?_) (fun t2 out hm => ?_) hf22) ?_
  · have hm := hm
    obtain rfl := inj_r hm
    exact dt_val (de_var rfl rfl)
  · have hm := hm
    refine dss_cons (S1 := [.dat (en (a0 : (List (List Str)))), .dat (en (a1 : (List (T2 Str Int)))), .dat (en (a2 : Int)), .dat (en (t2.1 : (List Int))), .dat (en (t2.2 : Bool)), .own (.lst (List.map Enc.enc (([] : List (T2 Int Int)) : (List (T2 Int Int))))), .un, .un, .un]) (ds_setO (i := 5) (S1 := [.dat (en (a0 : (List (List Str)))), .dat (en (a1 : (List (T2 Str Int)))), .dat (en (a2 : Int)), .dat (en (t2.1 : (List Int))), .dat (en (t2.2 : Bool)), .un, .un, .un, .un]) rfl rfl (df_lst (dd_nil))) ?_
    obtain ⟨f15, hf15, hm⟩ := bnd hm
    refine dss_cons (S1 := [.dat (en (a0 : (List (List Str)))), .dat (en (a1 : (List (T2 Str Int)))), .dat (en (a2 : Int)), .dat (en (t2.1 : (List Int))), .dat (en (t2.2 : Bool)), .own (.lst (List.map Enc.enc (f15 : (List (T2 Int Int))))), .un, .un, .un]) (ds_forF (t0 := (([] : List (T2 Int Int)) : (List (T2 Int Int)))) (f := Enc.enc) (fun (t3 : (List (T2 Int Int))) => [.dat (en (a0 : (List (List Str)))), .dat (en (a1 : (List (T2 Str Int)))), .dat (en (a2 : Int)), .dat (en (t2.1 : (List Int))), .dat (en (t2.2 : Bool)), .own (.lst (List.map Enc.enc (t3 : (List (T2 Int Int))))), .un, .un, .un]) (fun (t3 : (List (T2 Int Int))) (x4 : Int) => [.dat (en (a0 : (List (List Str)))), .dat (en (a1 : (List (T2 Str Int)))), .dat (en (a2 : Int)), .dat (en (t2.1 : (List Int))), .dat (en (t2.2 : Bool)), .own (.lst (List.map Enc.enc (t3 : (List (T2 Int Int))))), .dat (en (x4 : Int)), .un, .un]) (di_range1 rfl (de_lenTT (xs := (a0 : (List (List Str)))) rfl (de_var rfl rfl))) (show Wk [.dat (en (a0 : (List (List Str)))), .dat (en (a1 : (List (T2 Str Int)))), .dat (en (a2 : Int)), .dat (en (t2.1 : (List Int))), .dat (en (t2.2 : Bool)), .own (.lst (List.map Enc.enc (([] : List (T2 Int Int)) : (List (T2 Int Int))))), .un, .un, .un] _ from (.eq (.eq (.eq (.eq (.eq (.eq (.eq (.eq (.eq .nil)))))))))) (fun t3 x4 _ => dg_name (i := 6) rfl rfl) (fun t3 x4 t' _ hm => ?_) hf15) ?_
    · obtain ⟨u5, hu5, hm⟩ := bnd hm
      obtain ⟨v6, hv6, hm⟩ := bnd hm
      refine dss_cons (S1 := [.dat (en (a0 : (List (List Str)))), .dat (en (a1 : (List (T2 Str Int)))), .dat (en (a2 : Int)), .dat (en (t2.1 : (List Int))), .dat (en (t2.2 : Bool)), .own (.lst (List.map Enc.enc (t3 : (List (T2 Int Int))))), .dat (en (x4 : Int)), .dat (en (v6 : (List Int))), .un]) (ds_set (i := 7) (S1 := [.dat (en (a0 : (List (List Str)))), .dat (en (a1 : (List (T2 Str Int)))), .dat (en (a2 : Int)), .dat (en (t2.1 : (List Int))), .dat (en (t2.2 : Bool)), .own (.lst (List.map Enc.enc (t3 : (List (T2 Int Int))))), .dat (en (x4 : Int)), .un, .un]) rfl rfl (de_eq (d := en ((sortE (t2.1 ++ ([x4] : (List Int)))) : (List Int))) (d1 := en (v6 : (List Int))) (de_tupL (ds := List.map Enc.enc ((sortE (t2.1 ++ ([x4] : (List Int)))) : (List Int))) rfl (db_new (df_sortT (xs := ((t2.1 ++ ([x4] : (List Int))) : (List Int))) rfl (de_catTT (xs := t2.1) (ys := ([x4] : (List Int))) (de_var rfl rfl) (de_tup (dd_cons (de_var rfl rfl) (dd_nil))) hu5)))) (by rw [inj_s hv6]))) ?_
      obtain ⟨r7, hr7, hm⟩ := bnd hm
      obtain ⟨r8, hr8, hm⟩ := bnd hm
      obtain ⟨v9, hv9, hm⟩ := bnd hm
      refine dss_cons (S1 := [.dat (en (a0 : (List (List Str)))), .dat (en (a1 : (List (T2 Str Int)))), .dat (en (a2 : Int)), .dat (en (t2.1 : (List Int))), .dat (en (t2.2 : Bool)), .own (.lst (List.map Enc.enc (t3 : (List (T2 Int Int))))), .dat (en (x4 : Int)), .dat (en (v6 : (List Int))), .dat (en (v9 : Int))]) (ds_set (i := 8) (S1 := [.dat (en (a0 : (List (List Str)))), .dat (en (a1 : (List (T2 Str Int)))), .dat (en (a2 : Int)), .dat (en (t2.1 : (List Int))), .dat (en (t2.2 : Bool)), .own (.lst (List.map Enc.enc (t3 : (List (T2 Int Int))))), .dat (en (x4 : Int)), .dat (en (v6 : (List Int))), .un]) rfl rfl (de_eq (d := en ((r7 - r8) : Int)) (d1 := en (v9 : Int)) (de_sub (de_call (d := (en (r7 : Int))) (C := C_worth_of_brief) (n := 3) rfl (da_dat (de_var rfl rfl) (da_dat (de_var rfl rfl) (da_dat (de_var rfl rfl) (da_nil)))) (.dat (.dat (.dat .nil))) ⟨_, _, _, r7, hr7, rfl, rfl, rfl⟩ .none) (de_call (d := (en (r8 : Int))) (C := C_worth_of_brief) (n := 3) rfl (da_dat (de_var rfl rfl) (da_dat (de_var rfl rfl) (da_dat (de_var rfl rfl) (da_nil)))) (.dat (.dat (.dat .nil))) ⟨_, _, _, r8, hr8, rfl, rfl, rfl⟩ .none)) (by rw [inj_s hv9]))) ?_
      obtain ⟨v11, hv11, hm⟩ := bnd hm
      obtain ⟨j14, hj14, hm⟩ := bnd hm
      refine dss_cons (S1 := [.dat (en (a0 : (List (List Str)))), .dat (en (a1 : (List (T2 Str Int)))), .dat (en (a2 : Int)), .dat (en (t2.1 : (List Int))), .dat (en (t2.2 : Bool)), .own (.lst (List.map Enc.enc (j14 : (List (T2 Int Int))))), .dat (en (x4 : Int)), .dat (en (v6 : (List Int))), .dat (en (v9 : Int))]) (ds_if (dt_w (dw_and (k2 := v11) (S2 := [.dat (en (a0 : (List (List Str)))), .dat (en (a1 : (List (T2 Str Int)))), .dat (en (a2 : Int)), .dat (en (t2.1 : (List Int))), .dat (en (t2.2 : Bool)), .own (.lst (List.map Enc.enc (t3 : (List (T2 Int Int))))), .dat (en (x4 : Int)), .dat (en (v6 : (List Int))), .dat (en (v9 : Int))]) (dt_c (cr_ninTT (x := (x4 : Int)) (xs := t2.1)) (de_var rfl rfl) (de_var rfl rfl)) (fun z => by have hm := ite_t hv11 z; obtain ⟨r10, hr10, hm⟩ := bnd hm; obtain rfl := inj_r hm; exact (dw_andP (dt_c (cr_le) (de_call (d := (en (r10 : Int))) (C := C_words_in_brief) (n := 2) rfl (da_dat (de_var rfl rfl) (da_dat (de_var rfl rfl) (da_nil))) (.dat (.dat .nil)) ⟨_, _, r10, hr10, rfl, rfl, rfl⟩ .none) (de_var rfl rfl)) (fun _ => dw_and1 (dt_c (cr_gt) (de_var rfl rfl) (de_int))))) (fun z => by have hm := ite_f hv11 z; obtain rfl := inj_r hm; exact ⟨rfl, rfl⟩))) (fun z => ?_) (fun z => ?_)) ?_
      · clear hm
        have hm := ite_t hj14 z
        obtain ⟨u13, hu13, hm⟩ := bnd hm
        refine dss_cons (S1 := [.dat (en (a0 : (List (List Str)))), .dat (en (a1 : (List (T2 Str Int)))), .dat (en (a2 : Int)), .dat (en (t2.1 : (List Int))), .dat (en (t2.2 : Bool)), .own (.lst (List.map Enc.enc ((t3 ++ [(⟨(-v9), x4⟩ : (T2 Int Int))]) : (List (T2 Int Int))))), .dat (en (x4 : Int)), .dat (en (v6 : (List Int))), .dat (en (v9 : Int))]) (ds_expr (de_appendT (i := 5) (xs := (t3 : (List (T2 Int Int)))) (y := (⟨(-v9), x4⟩ : (T2 Int Int))) rfl rfl .own (de_tup (dd_cons (de_neg (de_var rfl rfl)) (dd_cons (de_var rfl rfl) (dd_nil)))) rfl .own hu13)) ?_
        obtain rfl := inj_r hm
        exact dss_nil (.eq (.eq (.eq (.eq (.eq (.eq (.eq (.eq (.eq .nil)))))))))
      · clear hm
        have hm := ite_f hj14 z
        obtain rfl := inj_r hm
        exact dss_nil (.eq (.eq (.eq (.eq (.eq (.eq (.eq (.eq (.eq .nil)))))))))
      obtain rfl := inj_r hm
      exact dss_nil (.eq (.eq (.eq (.eq (.eq (.eq (.un rfl (.un rfl (.un rfl .nil)))))))))
    obtain ⟨v16, hv16, hm⟩ := bnd hm
    refine dss_cons (S1 := [.dat (en (a0 : (List (List Str)))), .dat (en (a1 : (List (T2 Str Int)))), .dat (en (a2 : Int)), .dat (en (t2.1 : (List Int))), .dat (en (v16 : Bool)), .own (.lst (List.map Enc.enc (f15 : (List (T2 Int Int))))), .un, .un, .un]) (ds_set (i := 4) (S1 := [.dat (en (a0 : (List (List Str)))), .dat (en (a1 : (List (T2 Str Int)))), .dat (en (a2 : Int)), .dat (en (t2.1 : (List Int))), .dat (en (t2.2 : Bool)), .own (.lst (List.map Enc.enc (f15 : (List (T2 Int Int))))), .un, .un, .un]) rfl rfl (de_eq (d := en ((decide ((0 : Int) < (f15.length : Int))) : Bool)) (d1 := en (v16 : Bool)) (de_c (cr_gt) (de_lend (i := 5) rfl (.inl rfl) (de_lenLT (xs := (f15 : (List (T2 Int Int)))) rfl (db_var rfl rfl)) rfl) (de_int)) (by rw [inj_s hv16]))) ?_
    obtain ⟨j21, hj21, hm⟩ := bnd hm
    refine dss_cons (S1 := [.dat (en (a0 : (List (List Str)))), .dat (en (a1 : (List (T2 Str Int)))), .dat (en (a2 : Int)), .dat (en (j21 : (List Int))), .dat (en (v16 : Bool)), .own (.lst (List.map Enc.enc (f15 : (List (T2 Int Int))))), .un, .un, .un]) (ds_if (dt_val (de_var rfl rfl)) (fun z => ?_) (fun z => ?_)) ?_
    · clear hm
      have hm := ite_t hj21 z
      obtain ⟨v18, hv18, hm⟩ := bnd hm
      obtain ⟨u19, hu19, hm⟩ := bnd hm
      obtain ⟨v20, hv20, hm⟩ := bnd hm
      refine dss_cons (S1 := [.dat (en (a0 : (List (List Str)))), .dat (en (a1 : (List (T2 Str Int)))), .dat (en (a2 : Int)), .dat (en (v20 : (List Int))), .dat (en (v16 : Bool)), .own (.lst (List.map Enc.enc (f15 : (List (T2 Int Int))))), .un, .un, .un]) (ds_set (i := 3) (S1 := [.dat (en (a0 : (List (List Str)))), .dat (en (a1 : (List (T2 Str Int)))), .dat (en (a2 : Int)), .dat (en (t2.1 : (List Int))), .dat (en (v16 : Bool)), .own (.lst (List.map Enc.enc (f15 : (List (T2 Int Int))))), .un, .un, .un]) rfl rfl (de_eq (d := en ((sortE (t2.1 ++ ([v18.b] : (List Int)))) : (List Int))) (d1 := en (v20 : (List Int))) (de_tupL (ds := List.map Enc.enc ((sortE (t2.1 ++ ([v18.b] : (List Int)))) : (List Int))) rfl (db_new (df_sortT (xs := ((t2.1 ++ ([v18.b] : (List Int))) : (List Int))) rfl (de_catTT (xs := t2.1) (ys := ([v18.b] : (List Int))) (de_var rfl rfl) (de_tup (dd_cons (de_ixT (ds := [en (v18).a, en (v18).b]) (d := en (v18).b) (de_lend (i := 5) rfl (.inl rfl) (de_minB rfl (db_var rfl rfl) hv18) rfl) (de_int) rfl) (dd_nil))) hu19)))) (by rw [inj_s hv20]))) ?_
      obtain rfl := inj_r hm
      exact dss_nil (.eq (.eq (.eq (.eq (.eq (.eq (.eq (.eq (.eq .nil)))))))))
    · clear hm
      have hm := ite_f hj21 z
      obtain rfl := inj_r hm
      exact dss_nil (.eq (.eq (.eq (.eq (.eq (.eq (.eq (.eq (.eq .nil)))))))))
    obtain rfl := inj_r hm
    exact dss_nil (.eq (.eq (.eq (.eq (.eq (.un rfl (.eq (.eq (.eq .nil)))))))))
  obtain rfl := inj_r hm
  exact dss_end (ds_le (S := _) (ds_ret (de_var rfl rfl)) (.ret (.un rfl (.un rfl (.un rfl (.un rfl (.un rfl (.eq (.eq (.eq (.eq .nil)))))))))))
theorem h_greedy_brief {P : Program} {w : World} {K : PySem.W.Frag} {mg : Str → Option Value} {base : Heap} {k : Nat} {f : Addr} {fd : FuncData} (F : Fun K "greedy_brief" "greedy_brief" (topS 5) f fd) (hm : mg "greedy_brief" = some (.ref f)) (hb : Binds K fd ["sentences", "table", "most"] []) (z : ∀ x ∈ g_greedy_brief.blt ++ g_greedy_brief.hid, mg x = none) (H0 : Has P w K mg base k "worth_of_brief" 3 C_worth_of_brief) (H1 : Has P w K mg base k "words_in_brief" 2 C_words_in_brief) : Has P w K mg base (k + 1) "greedy_brief" 3 C_greedy_brief :=
  has_mk F hm hb (fn_ok F (N := ["sentences", "table", "most", "found", "added", "told", "number", "longer", "gain"]) (G := g_greedy_brief) ⟨rfl, rfl, rfl, by decide +kernel, rfl, by decide +kernel, by decide +kernel⟩ rfl (by decide +kernel) rfl rfl rfl z (fun x m C e => by
    have e := lookup_mem e
    simp only [g_greedy_brief, List.cons_append, List.nil_append, List.mem_cons, List.not_mem_nil, Prod.mk.injEq, or_false] at e
    rcases e with ⟨rfl, rfl, rfl⟩ | ⟨rfl, rfl, rfl⟩
    · exact H0
    · exact H1) (fun T r0 T' hC _ _ => by
      obtain ⟨fuel, a0, a1, a2, r, hm, rfl, rfl, rfl⟩ := hC
      exact w_greedy_brief _ _ _ _ _ hm) (fun T r0 T' hC => by
      obtain ⟨fuel, a0, a1, a2, r, hm, rfl, rfl, rfl⟩ := hC
      exact ⟨Enc.pure _, fun s hs => by cases hs with | head => exact rfl | tail _ hs => exact (by cases hs with | head => exact rfl | tail _ hs => exact (by cases hs with | head => exact rfl | tail _ hs => exact (by cases hs)))⟩))
/-! ### _law_is_best_right -/
def m__law_is_best_right (fuel : Nat) (a0 : (List (List Str))) (a1 : (List (T2 Str Int))) (a2 : Int) : Option Bool :=
  (some ([([] : (List Int))] : List (List Int))).bind fun v1 =>
  (loopF (fun (t2 : (List (List Int))) (x3 : Int) =>
  ((compO (fun (x4 : (List Int)) => (((chkN (x4.length + ([x3] : (List Int)).length)).bind fun u5 => some (some (x4 ++ ([x3] : (List Int))))) : Option (Option (List Int)))) t2).bind fun l6 =>
  (chkN (t2.length + l6.length)).bind fun u7 =>
  (some (t2 ++ l6)).bind fun v8 =>
  some v8 : Option (List (List Int)))) v1 (rng 0 (a0.length : Int))).bind fun f9 =>
  (compO (fun (x10 : (List Int)) => (((m__law_long a0 x10).bind fun r11 => (if (decide (r11 ≤ a2)) = true then some (some x10) else some none)) : Option (Option (List Int)))) f9).bind fun l12 =>
  (compO (fun (x13 : (List Int)) => (((m__law_worth a0 a1 x13).bind fun r14 => some (some r14)) : Option (Option Int))) l12).bind fun l15 =>
  (maxE (l15 : (List Int))).bind fun v16 =>
  (compO (fun (x17 : (List Int)) => (((m__law_worth a0 a1 x17).bind fun r18 => (if (decide (r18 = v16)) = true then some (some x17) else some none)) : Option (Option (List Int)))) l12).bind fun l19 =>
  (minE (l19 : (List (List Int)))).bind fun v20 =>
  (m__law_greedy a0 a1 a2).bind fun r21 =>
  (m_best_brief a0 a1 a2).bind fun r22 =>
  ((if (!(decide (r22 = (⟨v16, v20⟩ : (T2 Int (List Int)))))) = true then some true else ((m_greedy_brief fuel a0 a1 a2).bind fun r23 => some (!(decide (r23 = r21)))))).bind fun v24 =>
  if v24 = true then
    (some (false : Bool))
  else
    ((m__law_worth a0 a1 r21).bind fun r26 =>
    ((if (decide (v16 < r26)) = true then some true else ((m_best_brief a0 a1 (a2 + (2 : Int))).bind fun r27 => ((if (decide (r27.a < v16)) = true then some true else ((chkN (a0.length + ([([("zero" : Str)] : (List Str))] : (List (List Str))).length)).bind fun u28 => (m_best_brief (a0 ++ ([([("zero" : Str)] : (List Str))] : (List (List Str)))) a1 a2).bind fun r29 => some (decide (r29.a < v16))))).bind fun v30 => some v30))).bind fun v31 =>
    if v31 = true then
      (some (false : Bool))
    else
      ((whileF (fun (t33 : Int) => ((((if (decide (t33 < (a0.length : Int))) = true then ((chkRg 0 (t33 + (1 : Int))).bind fun u34 => (m__law_long_v2 a0 (rng 0 (t33 + (1 : Int)))).bind fun r35 => some (decide (r35 ≤ a2))) else some false)).bind fun v36 => some v36) : Option Bool)) (fun (t33 : Int) =>
      ((some ((t33 + (1 : Int)) : Int)).bind fun v37 =>
      some (.nx v37) : Option (Out Empty Int))) fuel (0 : Int)).bind fun f38 =>
      (m_first_sentences a0 a2).bind fun r39 =>
      (chkRg 0 f38).bind fun u40 =>
      some ((decide (r39 = (rng 0 f38))) : Bool)))
def C__law_is_best_right : Contract := fun T r0 T' => ∃ (fuel : Nat) (a0 : (List (List Str))) (a1 : (List (T2 Str Int))) (a2 : Int) (r : Bool), m__law_is_best_right fuel a0 a1 a2 = some r ∧ T = [.dat (en (a0 : (List (List Str)))), .dat (en (a1 : (List (T2 Str Int)))), .dat (en (a2 : Int))] ∧ r0 = .dat (en (r : Bool)) ∧ T' = [.un, .un, .un]
def g__law_is_best_right : Cxt where
  N := ["sentences", "table", "most", "sets", "k", "fit", "best", "least", "greedy", "first", "row"]
  sc := defScope (topS 19)
  tab := [("sentences", 0), ("table", 1), ("most", 2), ("sets", 3), ("k", 4), ("fit", 5), ("best", 6), ("least", 7), ("greedy", 8), ("first", 9)]
  loc := ["sets", "k", "fit", "best", "least", "greedy", "first"]
  fnc := fun _ => true
  blt := ["range", "max", "min", "len", "tuple", "list"]
  fns := [("_law_greedy", 3, C__law_greedy), ("_law_same", 2, sameC 8), ("first_sentences", 2, C_first_sentences), ("_law_worth", 3, C__law_worth), ("_law_long", 2, C__law_long), ("best_brief", 3, C_best_brief), ("greedy_brief", 3, C_greedy_brief)]
  hid := []
  hfns := []
theorem w__law_is_best_right (fuel : Nat) (a0 : (List (List Str))) (a1 : (List (T2 Str Int))) (a2 : Int) (r : Bool) (hm : m__law_is_best_right fuel a0 a1 a2 = some r) : DSs g__law_is_best_right (defBody (topS 19)) [.dat (en (a0 : (List (List Str)))), .dat (en (a1 : (List (T2 Str Int)))), .dat (en (a2 : Int)), .un, .un, .un, .un, .un, .un, .un, .un] (.ret (.dat (en (r : Bool))) [.un, .un, .un, .un, .un, .un, .un, .un, .un, .un, .un]) := by
  unfold m__law_is_best_right at hm
  obtain ⟨v1, hv1, hm⟩ := bnd hm
  refine dss_cons (S1 := [.dat (en (a0 : (List (List Str)))), .dat (en (a1 : (List (T2 Str Int)))), .dat (en (a2 : Int)), .own (.lst (List.map Enc.enc (v1 : (List (List Int))))), .un, .un, .un, .un, .un, .un, .un]) (ds_eqS (ds_setO (i := 3) (S1 := [.dat (en (a0 : (List (List Str)))), .dat (en (a1 : (List (T2 Str Int)))), .dat (en (a2 : Int)), .un, .un, .un, .un, .un, .un, .un, .un]) rfl rfl (df_lst (dd_cons (de_tup (dd_nil)) (dd_nil)))) (by rw [inj_s hv1]; rfl)) ?_
  obtain ⟨f9, hf9, hm⟩ := bnd hm
  refine dss_cons (S1 := [.dat (en (a0 : (List (List Str)))), .dat (en (a1 : (List (T2 Str Int)))), .dat (en (a2 : Int)), .own (.lst (List.map Enc.enc (f9 : (List (List Int))))), .un, .un, .un, .un, .un, .un, .un]) (ds_forF (t0 := (v1 : (List (List Int)))) (f := Enc.enc) (fun (t2 : (List (List Int))) => [.dat (en (a0 : (List (List Str)))), .dat (en (a1 : (List (T2 Str Int)))), .dat (en (a2 : Int)), .own (.lst (List.map Enc.enc (t2 : (List (List Int))))), .un, .un, .un, .un, .un, .un, .un]) (fun (t2 : (List (List Int))) (x3 : Int) => [.dat (en (a0 : (List (List Str)))), .dat (en (a1 : (List (T2 Str Int)))), .dat (en (a2 : Int)), .own (.lst (List.map Enc.enc (t2 : (List (List Int))))), .dat (en (x3 : Int)), .un, .un, .un, .un, .un, .un]) (di_range1 rfl (de_lenTT (xs := (a0 : (List (List Str)))) rfl (de_var rfl rfl))) (show Wk [.dat (en (a0 : (List (List Str)))), .dat (en (a1 : (List (T2 Str Int)))), .dat (en (a2 : Int)), .own (.lst (List.map Enc.enc (v1 : (List (List Int))))), .un, .un, .un, .un, .un, .un, .un] _ from (.eq (.eq (.eq (.eq (.eq (.eq (.eq (.eq (.eq (.eq (.eq .nil)))))))))))) (fun t2 x3 _ => dg_name (i := 4) rfl rfl) (fun t2 x3 t' _ hm => ?_) hf9) ?_
  · obtain ⟨l6, hl6, hm⟩ := bnd hm
    obtain ⟨u7, hu7, hm⟩ := bnd hm
    obtain ⟨v8, hv8, hm⟩ := bnd hm
    refine dss_cons (S1 := [.dat (en (a0 : (List (List Str)))), .dat (en (a1 : (List (T2 Str Int)))), .dat (en (a2 : Int)), .own (.lst (List.map Enc.enc (v8 : (List (List Int))))), .dat (en (x3 : Int)), .un, .un, .un, .un, .un, .un]) (ds_eqS (ds_setO (i := 3) (S1 := [.dat (en (a0 : (List (List Str)))), .dat (en (a1 : (List (T2 Str Int)))), .dat (en (a2 : Int)), .own (.lst (List.map Enc.enc (t2 : (List (List Int))))), .dat (en (x3 : Int)), .un, .un, .un, .un, .un, .un]) rfl rfl (df_lend (i := 3) rfl (.inl rfl) (df_catBT (xs := (t2 : (List (List Int)))) (ys := l6) (db_var rfl rfl) (db_new (df_lc (lc_okO (own := [("row", 10)]) (tab := [("k", 4), ("row", 10)]) (loc := ["row"]) (f := Enc.enc) (h := Enc.enc) (xs := t2) (tgt := fun x4 => [.dat (en (a0 : (List (List Str)))), .dat (en (a1 : (List (T2 Str Int)))), .dat (en (a2 : Int)), .bor (.lst (List.map Enc.enc (t2 : (List (List Int))))), .dat (en (x3 : Int)), .un, .un, .un, .un, .un, .dat (en (x4 : (List Int)))]) (by decide +kernel) (by decide +kernel) (dz_list (db_var rfl rfl)) rfl (by decide) (fun x4 _ => dg_name (i := 10) rfl rfl) (fun x4 o _ hm => (by have hm := hm; obtain ⟨u5, hu5, hm⟩ := bnd hm; obtain rfl := inj_r hm; exact ⟨_, _, dts_nil, de_catTT (xs := x4) (ys := ([x3] : (List Int))) (de_var rfl rfl) (de_tup (dd_cons (de_var rfl rfl) (dd_nil))) hu5, rfl⟩)) hl6))) hu7) rfl)) (by rw [inj_s hv8]; rfl)) ?_
    obtain rfl := inj_r hm
    exact dss_nil (.eq (.eq (.eq (.eq (.un rfl (.eq (.eq (.eq (.eq (.eq (.eq .nil)))))))))))
  obtain ⟨l12, hl12, hm⟩ := bnd hm
  refine dss_cons (S1 := [.dat (en (a0 : (List (List Str)))), .dat (en (a1 : (List (T2 Str Int)))), .dat (en (a2 : Int)), .own (.lst (List.map Enc.enc (f9 : (List (List Int))))), .un, .own (.lst (List.map Enc.enc (l12 : (List (List Int))))), .un, .un, .un, .un, .un]) (ds_lend (i := 3) (R := .nx [.dat (en (a0 : (List (List Str)))), .dat (en (a1 : (List (T2 Str Int)))), .dat (en (a2 : Int)), .bor (.lst (List.map Enc.enc (f9 : (List (List Int))))), .un, .own (.lst (List.map Enc.enc (l12 : (List (List Int))))), .un, .un, .un, .un, .un]) rfl .own (ds_setLc (i := 5) (S1 := [.dat (en (a0 : (List (List Str)))), .dat (en (a1 : (List (T2 Str Int)))), .dat (en (a2 : Int)), .bor (.lst (List.map Enc.enc (f9 : (List (List Int))))), .un, .un, .un, .un, .un, .un, .un]) rfl rfl (by decide +kernel) (lc_okO (own := [("row", 10)]) (tab := [("sentences", 0), ("most", 2), ("row", 10)]) (loc := ["row"]) (f := Enc.enc) (h := Enc.enc) (xs := f9) (tgt := fun x10 => [.dat (en (a0 : (List (List Str)))), .dat (en (a1 : (List (T2 Str Int)))), .dat (en (a2 : Int)), .bor (.lst (List.map Enc.enc (f9 : (List (List Int))))), .un, .un, .un, .un, .un, .un, .dat (en (x10 : (List Int)))]) (by decide +kernel) (by decide +kernel) (dz_list (db_var rfl rfl)) rfl (by decide) (fun x10 _ => dg_name (i := 10) rfl rfl) (fun x10 o _ hm => (by have hm := hm; obtain ⟨r11, hr11, hm⟩ := bnd hm; by_cases hk : (decide (r11 ≤ a2)) = true; (have hm := ite_t hm hk; obtain rfl := inj_r hm; exact ⟨_, _, dts_one (dt_eq (dt_c (cr_le) (de_call (d := (en (r11 : Int))) (C := C__law_long) (n := 2) rfl (da_dat (de_var rfl rfl) (da_dat (de_var rfl rfl) (da_nil))) (.dat (.dat .nil)) (.inl ⟨_, _, r11, hr11, rfl, rfl, rfl⟩) .none) (de_var rfl rfl)) hk), de_var rfl rfl, rfl⟩); (have hm := ite_f hm (ne_t hk); obtain rfl := inj_r hm; exact ⟨_, dts_one (dt_eq (dt_c (cr_le) (de_call (d := (en (r11 : Int))) (C := C__law_long) (n := 2) rfl (da_dat (de_var rfl rfl) (da_dat (de_var rfl rfl) (da_nil))) (.dat (.dat .nil)) (.inl ⟨_, _, r11, hr11, rfl, rfl, rfl⟩) .none) (de_var rfl rfl)) (ne_t hk)), rfl⟩))) hl12)) rfl) ?_
  obtain ⟨l15, hl15, hm⟩ := bnd hm
  obtain ⟨v16, hv16, hm⟩ := bnd hm
  refine dss_cons (S1 := [.dat (en (a0 : (List (List Str)))), .dat (en (a1 : (List (T2 Str Int)))), .dat (en (a2 : Int)), .own (.lst (List.map Enc.enc (f9 : (List (List Int))))), .un, .own (.lst (List.map Enc.enc (l12 : (List (List Int))))), .dat (en (v16 : Int)), .un, .un, .un, .un]) (ds_set (i := 6) (S1 := [.dat (en (a0 : (List (List Str)))), .dat (en (a1 : (List (T2 Str Int)))), .dat (en (a2 : Int)), .own (.lst (List.map Enc.enc (f9 : (List (List Int))))), .un, .own (.lst (List.map Enc.enc (l12 : (List (List Int))))), .un, .un, .un, .un, .un]) rfl rfl (d := en (v16 : Int)) (de_maxB rfl (db_new (df_lend (i := 5) rfl (.inl rfl) (df_lc (lc_okO (own := [("row", 10)]) (tab := [("sentences", 0), ("table", 1), ("row", 10)]) (loc := ["row"]) (f := Enc.enc) (h := Enc.enc) (xs := l12) (tgt := fun x13 => [.dat (en (a0 : (List (List Str)))), .dat (en (a1 : (List (T2 Str Int)))), .dat (en (a2 : Int)), .own (.lst (List.map Enc.enc (f9 : (List (List Int))))), .un, .bor (.lst (List.map Enc.enc (l12 : (List (List Int))))), .un, .un, .un, .un, .dat (en (x13 : (List Int)))]) (by decide +kernel) (by decide +kernel) (dz_list (db_var rfl rfl)) rfl (by decide) (fun x13 _ => dg_name (i := 10) rfl rfl) (fun x13 o _ hm => (by have hm := hm; obtain ⟨r14, hr14, hm⟩ := bnd hm; obtain rfl := inj_r hm; exact ⟨_, _, dts_nil, de_call (d := (en (r14 : Int))) (C := C__law_worth) (n := 3) rfl (da_dat (de_var rfl rfl) (da_dat (de_var rfl rfl) (da_dat (de_var rfl rfl) (da_nil)))) (.dat (.dat (.dat .nil))) (.inl ⟨_, _, _, r14, hr14, rfl, rfl, rfl⟩) .none, rfl⟩)) hl15)) rfl)) hv16)) ?_
  obtain ⟨l19, hl19, hm⟩ := bnd hm
  obtain ⟨v20, hv20, hm⟩ := bnd hm
  refine dss_cons (S1 := [.dat (en (a0 : (List (List Str)))), .dat (en (a1 : (List (T2 Str Int)))), .dat (en (a2 : Int)), .own (.lst (List.map Enc.enc (f9 : (List (List Int))))), .un, .own (.lst (List.map Enc.enc (l12 : (List (List Int))))), .dat (en (v16 : Int)), .dat (en (v20 : (List Int))), .un, .un, .un]) (ds_set (i := 7) (S1 := [.dat (en (a0 : (List (List Str)))), .dat (en (a1 : (List (T2 Str Int)))), .dat (en (a2 : Int)), .own (.lst (List.map Enc.enc (f9 : (List (List Int))))), .un, .own (.lst (List.map Enc.enc (l12 : (List (List Int))))), .dat (en (v16 : Int)), .un, .un, .un, .un]) rfl rfl (d := en (v20 : (List Int))) (de_minB rfl (db_new (df_lend (i := 5) rfl (.inl rfl) (df_lc (lc_okO (own := [("row", 10)]) (tab := [("sentences", 0), ("table", 1), ("best", 6), ("row", 10)]) (loc := ["row"]) (f := Enc.enc) (h := Enc.enc) (xs := l12) (tgt := fun x17 => [.dat (en (a0 : (List (List Str)))), .dat (en (a1 : (List (T2 Str Int)))), .dat (en (a2 : Int)), .own (.lst (List.map Enc.enc (f9 : (List (List Int))))), .un, .bor (.lst (List.map Enc.enc (l12 : (List (List Int))))), .dat (en (v16 : Int)), .un, .un, .un, .dat (en (x17 : (List Int)))]) (by decide +kernel) (by decide +kernel) (dz_list (db_var rfl rfl)) rfl (by decide) (fun x17 _ => dg_name (i := 10) rfl rfl) (fun x17 o _ hm => (by have hm := hm; obtain ⟨r18, hr18, hm⟩ := bnd hm; by_cases hk : (decide (r18 = v16)) = true; (have hm := ite_t hm hk; obtain rfl := inj_r hm; exact ⟨_, _, dts_one (dt_eq (dt_c (cr_eqT (x := (r18 : Int)) (y := v16)) (de_call (d := (en (r18 : Int))) (C := C__law_worth) (n := 3) rfl (da_dat (de_var rfl rfl) (da_dat (de_var rfl rfl) (da_dat (de_var rfl rfl) (da_nil)))) (.dat (.dat (.dat .nil))) (.inl ⟨_, _, _, r18, hr18, rfl, rfl, rfl⟩) .none) (de_var rfl rfl)) hk), de_var rfl rfl, rfl⟩); (have hm := ite_f hm (ne_t hk); obtain rfl := inj_r hm; exact ⟨_, dts_one (dt_eq (dt_c (cr_eqT (x := (r18 : Int)) (y := v16)) (de_call (d := (en (r18 : Int))) (C := C__law_worth) (n := 3) rfl (da_dat (de_var rfl rfl) (da_dat (de_var rfl rfl) (da_dat (de_var rfl rfl) (da_nil)))) (.dat (.dat (.dat .nil))) (.inl ⟨_, _, _, r18, hr18, rfl, rfl, rfl⟩) .none) (de_var rfl rfl)) (ne_t hk)), rfl⟩))) hl19)) rfl)) hv20)) ?_
  obtain ⟨r21, hr21, hm⟩ := bnd hm
  refine dss_cons (S1 := [.dat (en (a0 : (List (List Str)))), .dat (en (a1 : (List (T2 Str Int)))), .dat (en (a2 : Int)), .own (.lst (List.map Enc.enc (f9 : (List (List Int))))), .un, .own (.lst (List.map Enc.enc (l12 : (List (List Int))))), .dat (en (v16 : Int)), .dat (en (v20 : (List Int))), .dat (en (r21 : (List Int))), .un, .un]) (ds_set (i := 8) (S1 := [.dat (en (a0 : (List (List Str)))), .dat (en (a1 : (List (T2 Str Int)))), .dat (en (a2 : Int)), .own (.lst (List.map Enc.enc (f9 : (List (List Int))))), .un, .own (.lst (List.map Enc.enc (l12 : (List (List Int))))), .dat (en (v16 : Int)), .dat (en (v20 : (List Int))), .un, .un, .un]) rfl rfl (d := en (r21 : (List Int))) (de_call (d := (en (r21 : (List Int)))) (C := C__law_greedy) (n := 3) rfl (da_dat (de_var rfl rfl) (da_dat (de_var rfl rfl) (da_dat (de_var rfl rfl) (da_nil)))) (.dat (.dat (.dat .nil))) ⟨_, _, _, r21, hr21, rfl, rfl, rfl⟩ .none)) ?_
  obtain ⟨r22, hr22, hm⟩ := bnd hm
  obtain ⟨v24, hv24, hm⟩ := bnd hm
  by_cases k25 : v24 = true
  · have hm := ite_t hm k25
    refine dss_end (ds_if (dt_eq (dt_w (dw_or (k2 := v24) (S2 := [.dat (en (a0 : (List (List Str)))), .dat (en (a1 : (List (T2 Str Int)))), .dat (en (a2 : Int)), .own (.lst (List.map Enc.enc (f9 : (List (List Int))))), .un, .own (.lst (List.map Enc.enc (l12 : (List (List Int))))), .dat (en (v16 : Int)), .dat (en (v20 : (List Int))), .dat (en (r21 : (List Int))), .un, .un]) (dt_not (dt_val (de_sameT (x := (r22 : (T2 Int (List Int)))) (y := (⟨v16, v20⟩ : (T2 Int (List Int)))) rfl (da_dat (de_call (d := (en (r22 : (T2 Int (List Int))))) (C := C_best_brief) (n := 3) rfl (da_dat (de_var rfl rfl) (da_dat (de_var rfl rfl) (da_dat (de_var rfl rfl) (da_nil)))) (.dat (.dat (.dat .nil))) ⟨_, _, _, r22, hr22, rfl, rfl, rfl⟩ .none) (da_dat (de_tup (dd_cons (de_var rfl rfl) (dd_cons (de_var rfl rfl) (dd_nil)))) da_nil))))) (fun z => by have hm := ite_f hv24 z; obtain ⟨r23, hr23, hm⟩ := bnd hm; obtain rfl := inj_r hm; exact (dw_or1 (dt_not (dt_val (de_sameT (x := (r23 : (List Int))) (y := r21) rfl (da_dat (de_call (d := (en (r23 : (List Int)))) (C := C_greedy_brief) (n := 3) rfl (da_dat (de_var rfl rfl) (da_dat (de_var rfl rfl) (da_dat (de_var rfl rfl) (da_nil)))) (.dat (.dat (.dat .nil))) ⟨fuel, _, _, _, r23, hr23, rfl, rfl, rfl⟩ .none) (da_dat (de_var rfl rfl) da_nil))))))) (fun z => by have hm := ite_t hv24 z; obtain rfl := inj_r hm; exact ⟨rfl, rfl⟩))) k25) (fun _ => ?_) (fun z => by cases z)) rfl
    obtain rfl := inj_r hm
    exact dss_end (ds_le (S := _) (ds_ret (de_bl)) (.ret (.un rfl (.un rfl (.un rfl (.un rfl (.eq (.un rfl (.un rfl (.un rfl (.un rfl (.eq (.eq .nil)))))))))))))
  have hm := ite_f hm (ne_t k25)
  refine dss_cons (ds_if (dt_eq (dt_w (dw_or (k2 := v24) (S2 := [.dat (en (a0 : (List (List Str)))), .dat (en (a1 : (List (T2 Str Int)))), .dat (en (a2 : Int)), .own (.lst (List.map Enc.enc (f9 : (List (List Int))))), .un, .own (.lst (List.map Enc.enc (l12 : (List (List Int))))), .dat (en (v16 : Int)), .dat (en (v20 : (List Int))), .dat (en (r21 : (List Int))), .un, .un]) (dt_not (dt_val (de_sameT (x := (r22 : (T2 Int (List Int)))) (y := (⟨v16, v20⟩ : (T2 Int (List Int)))) rfl (da_dat (de_call (d := (en (r22 : (T2 Int (List Int))))) (C := C_best_brief) (n := 3) rfl (da_dat (de_var rfl rfl) (da_dat (de_var rfl rfl) (da_dat (de_var rfl rfl) (da_nil)))) (.dat (.dat (.dat .nil))) ⟨_, _, _, r22, hr22, rfl, rfl, rfl⟩ .none) (da_dat (de_tup (dd_cons (de_var rfl rfl) (dd_cons (de_var rfl rfl) (dd_nil)))) da_nil))))) (fun z => by have hm := ite_f hv24 z; obtain ⟨r23, hr23, hm⟩ := bnd hm; obtain rfl := inj_r hm; exact (dw_or1 (dt_not (dt_val (de_sameT (x := (r23 : (List Int))) (y := r21) rfl (da_dat (de_call (d := (en (r23 : (List Int)))) (C := C_greedy_brief) (n := 3) rfl (da_dat (de_var rfl rfl) (da_dat (de_var rfl rfl) (da_dat (de_var rfl rfl) (da_nil)))) (.dat (.dat (.dat .nil))) ⟨fuel, _, _, _, r23, hr23, rfl, rfl, rfl⟩ .none) (da_dat (de_var rfl rfl) da_nil))))))) (fun z => by have hm := ite_t hv24 z; obtain rfl := inj_r hm; exact ⟨rfl, rfl⟩))) (ne_t k25)) (fun z => by cases z) (fun _ => dss_nil .refl)) ?_
  obtain ⟨r26, hr26, hm⟩ := bnd hm
  obtain ⟨v31, hv31, hm⟩ := bnd hm
  by_cases k32 : v31 = true
  · have hm := ite_t hm k32
    refine dss_end (ds_if (dt_eq (dt_w (dw_or (k2 := v31) (S2 := [.dat (en (a0 : (List (List Str)))), .dat (en (a1 : (List (T2 Str Int)))), .dat (en (a2 : Int)), .own (.lst (List.map Enc.enc (f9 : (List (List Int))))), .un, .own (.lst (List.map Enc.enc (l12 : (List (List Int))))), .dat (en (v16 : Int)), .dat (en (v20 : (List Int))), .dat (en (r21 : (List Int))), .un, .un]) (dt_c (cr_gt) (de_call (d := (en (r26 : Int))) (C := C__law_worth) (n := 3) rfl (da_dat (de_var rfl rfl) (da_dat (de_var rfl rfl) (da_dat (de_var rfl rfl) (da_nil)))) (.dat (.dat (.dat .nil))) (.inl ⟨_, _, _, r26, hr26, rfl, rfl, rfl⟩) .none) (de_var rfl rfl)) (fun z => by have hm := ite_f hv31 z; obtain ⟨r27, hr27, hm⟩ := bnd hm; obtain ⟨v30, hv30, hm⟩ := bnd hm; obtain rfl := inj_r hm; exact (dw_or (k2 := v30) (S2 := [.dat (en (a0 : (List (List Str)))), .dat (en (a1 : (List (T2 Str Int)))), .dat (en (a2 : Int)), .own (.lst (List.map Enc.enc (f9 : (List (List Int))))), .un, .own (.lst (List.map Enc.enc (l12 : (List (List Int))))), .dat (en (v16 : Int)), .dat (en (v20 : (List Int))), .dat (en (r21 : (List Int))), .un, .un]) (dt_c (cr_lt) (de_ixT (ds := [en (r27).a, en (r27).b]) (d := en (r27).a) (de_call (d := (en (r27 : (T2 Int (List Int))))) (C := C_best_brief) (n := 3) rfl (da_dat (de_var rfl rfl) (da_dat (de_var rfl rfl) (da_dat (de_add (de_var rfl rfl) (de_int)) (da_nil)))) (.dat (.dat (.dat .nil))) ⟨_, _, _, r27, hr27, rfl, rfl, rfl⟩ .none) (de_int) rfl) (de_var rfl rfl)) (fun z => by have hm := ite_f hv30 z; obtain ⟨u28, hu28, hm⟩ := bnd hm; obtain ⟨r29, hr29, hm⟩ := bnd hm; obtain rfl := inj_r hm; exact (dw_or1 (dt_c (cr_lt) (de_ixT (ds := [en (r29).a, en (r29).b]) (d := en (r29).a) (de_call (d := (en (r29 : (T2 Int (List Int))))) (C := C_best_brief) (n := 3) rfl (da_dat (de_catTT (xs := a0) (ys := ([([("zero" : Str)] : (List Str))] : (List (List Str)))) (de_var rfl rfl) (de_tup (dd_cons (de_tup (dd_cons (de_str) (dd_nil))) (dd_nil))) hu28) (da_dat (de_var rfl rfl) (da_dat (de_var rfl rfl) (da_nil)))) (.dat (.dat (.dat .nil))) ⟨_, _, _, r29, hr29, rfl, rfl, rfl⟩ .none) (de_int) rfl) (de_var rfl rfl)))) (fun z => by have hm := ite_t hv30 z; obtain rfl := inj_r hm; exact ⟨rfl, rfl⟩))) (fun z => by have hm := ite_t hv31 z; obtain rfl := inj_r hm; exact ⟨rfl, rfl⟩))) k32) (fun _ => ?_) (fun z => by cases z)) rfl
    obtain rfl := inj_r hm
    exact dss_end (ds_le (S := _) (ds_ret (de_bl)) (.ret (.un rfl (.un rfl (.un rfl (.un rfl (.eq (.un rfl (.un rfl (.un rfl (.un rfl (.eq (.eq .nil)))))))))))))
  have hm := ite_f hm (ne_t k32)
  refine dss_cons (ds_if (dt_eq (dt_w (dw_or (k2 := v31) (S2 := [.dat (en (a0 : (List (List Str)))), .dat (en (a1 : (List (T2 Str Int)))), .dat (en (a2 : Int)), .own (.lst (List.map Enc.enc (f9 : (List (List Int))))), .un, .own (.lst (List.map Enc.enc (l12 : (List (List Int))))), .dat (en (v16 : Int)), .dat (en (v20 : (List Int))), .dat (en (r21 : (List Int))), .un, .un]) (dt_c (cr_gt) (de_call (d := (en (r26 : Int))) (C := C__law_worth) (n := 3) rfl (da_dat (de_var rfl rfl) (da_dat (de_var rfl rfl) (da_dat (de_var rfl rfl) (da_nil)))) (.dat (.dat (.dat .nil))) (.inl ⟨_, _, _, r26, hr26, rfl, rfl, rfl⟩) .none) (de_var rfl rfl)) (fun z => by have hm := ite_f hv31 z; obtain ⟨r27, hr27, hm⟩ := bnd hm; obtain ⟨v30, hv30, hm⟩ := bnd hm; obtain rfl := inj_r hm; exact (dw_or (k2 := v30) (S2 := [.dat (en (a0 : (List (List Str)))), .dat (en (a1 : (List (T2 Str Int)))), .dat (en (a2 : Int)), .own (.lst (List.map Enc.enc (f9 : (List (List Int))))), .un, .own (.lst (List.map Enc.enc (l12 : (List (List Int))))), .dat (en (v16 : Int)), .dat (en (v20 : (List Int))), .dat (en (r21 : (List Int))), .un, .un]) (dt_c (cr_lt) (de_ixT (ds := [en (r27).a, en (r27).b]) (d := en (r27).a) (de_call (d := (en (r27 : (T2 Int (List Int))))) (C := C_best_brief) (n := 3) rfl (da_dat (de_var rfl rfl) (da_dat (de_var rfl rfl) (da_dat (de_add (de_var rfl rfl) (de_int)) (da_nil)))) (.dat (.dat (.dat .nil))) ⟨_, _, _, r27, hr27, rfl, rfl, rfl⟩ .none) (de_int) rfl) (de_var rfl rfl)) (fun z => by have hm := ite_f hv30 z; obtain ⟨u28, hu28, hm⟩ := bnd hm; obtain ⟨r29, hr29, hm⟩ := bnd hm; obtain rfl := inj_r hm; exact (dw_or1 (dt_c (cr_lt) (de_ixT (ds := [en (r29).a, en (r29).b]) (d := en (r29).a) (de_call (d := (en (r29 : (T2 Int (List Int))))) (C := C_best_brief) (n := 3) rfl (da_dat (de_catTT (xs := a0) (ys := ([([("zero" : Str)] : (List Str))] : (List (List Str)))) (de_var rfl rfl) (de_tup (dd_cons (de_tup (dd_cons (de_str) (dd_nil))) (dd_nil))) hu28) (da_dat (de_var rfl rfl) (da_dat (de_var rfl rfl) (da_nil)))) (.dat (.dat (.dat .nil))) ⟨_, _, _, r29, hr29, rfl, rfl, rfl⟩ .none) (de_int) rfl) (de_var rfl rfl)))) (fun z => by have hm := ite_t hv30 z; obtain rfl := inj_r hm; exact ⟨rfl, rfl⟩))) (fun z => by have hm := ite_t hv31 z; obtain rfl := inj_r hm; exact ⟨rfl, rfl⟩))) (ne_t k32)) (fun z => by cases z) (fun _ => dss_nil .refl)) ?_
  refine dss_cons (S1 := [.dat (en (a0 : (List (List Str)))), .dat (en (a1 : (List (T2 Str Int)))), .dat (en (a2 : Int)), .own (.lst (List.map Enc.enc (f9 : (List (List Int))))), .un, .own (.lst (List.map Enc.enc (l12 : (List (List Int))))), .dat (en (v16 : Int)), .dat (en (v20 : (List Int))), .dat (en (r21 : (List Int))), .dat (en ((0 : Int) : Int)), .un]) (ds_set (i := 9) (S1 := [.dat (en (a0 : (List (List Str)))), .dat (en (a1 : (List (T2 Str Int)))), .dat (en (a2 : Int)), .own (.lst (List.map Enc.enc (f9 : (List (List Int))))), .un, .own (.lst (List.map Enc.enc (l12 : (List (List Int))))), .dat (en (v16 : Int)), .dat (en (v20 : (List Int))), .dat (en (r21 : (List Int))), .un, .un]) rfl rfl (d := en ((0 : Int) : Int)) (de_int)) ?_
  obtain ⟨f38, hf38, hm⟩ := bnd hm
  refine dss_cons (S1 := [.dat (en (a0 : (List (List Str)))), .dat (en (a1 : (List (T2 Str Int)))), .dat (en (a2 : Int)), .own (.lst (List.map Enc.enc (f9 : (List (List Int))))), .un, .own (.lst (List.map Enc.enc (l12 : (List (List Int))))), .dat (en (v16 : Int)), .dat (en (v20 : (List Int))), .dat (en (r21 : (List Int))), .dat (en (f38 : Int)), .un]) (ds_whileF (fun (t33 : Int) => [.dat (en (a0 : (List (List Str)))), .dat (en (a1 : (List (T2 Str Int)))), .dat (en (a2 : Int)), .own (.lst (List.map Enc.enc (f9 : (List (List Int))))), .un, .own (.lst (List.map Enc.enc (l12 : (List (List Int))))), .dat (en (v16 : Int)), .dat (en (v20 : (List Int))), .dat (en (r21 : (List Int))), .dat (en (t33 : Int)), .un]) (.eq (.eq (.eq (.eq (.eq (.eq (.eq (.eq (.eq (.eq (.eq .nil))))))))))) (fun t33 b hm => ?_) (fun t33 out hm => ?_) hf38) ?_
  · have hm := hm
    obtain ⟨v36, hv36, hm⟩ := bnd hm
    obtain rfl := inj_r hm
    exact dt_w (dw_and (k2 := v36) (S2 := [.dat (en (a0 : (List (List Str)))), .dat (en (a1 : (List (T2 Str Int)))), .dat (en (a2 : Int)), .own (.lst (List.map Enc.enc (f9 : (List (List Int))))), .un, .own (.lst (List.map Enc.enc (l12 : (List (List Int))))), .dat (en (v16 : Int)), .dat (en (v20 : (List Int))), .dat (en (r21 : (List Int))), .dat (en (t33 : Int)), .un]) (dt_c (cr_lt) (de_var rfl rfl) (de_lenTT (xs := (a0 : (List (List Str)))) rfl (de_var rfl rfl))) (fun z => by have hm := ite_t hv36 z; obtain ⟨u34, hu34, hm⟩ := bnd hm; obtain ⟨r35, hr35, hm⟩ := bnd hm; obtain rfl := inj_r hm; exact (dw_and1 (dt_c (cr_le) (de_call (d := (en (r35 : Int))) (C := C__law_long) (n := 2) rfl (da_dat (de_var rfl rfl) (da_rd (db_new (df_listRg1 rfl rfl (de_add (de_var rfl rfl) (de_int)) hu34)) (da_nil))) (.dat (.rd .nil)) (.inr (⟨_, _, r35, hr35, rfl, rfl, rfl⟩)) .none) (de_var rfl rfl)))) (fun z => by have hm := ite_f hv36 z; obtain rfl := inj_r hm; exact ⟨rfl, rfl⟩))
  · have hm := hm
    obtain ⟨v37, hv37, hm⟩ := bnd hm
    refine dss_cons (S1 := [.dat (en (a0 : (List (List Str)))), .dat (en (a1 : (List (T2 Str Int)))), .dat (en (a2 : Int)), .own (.lst (List.map Enc.enc (f9 : (List (List Int))))), .un, .own (.lst (List.map Enc.enc (l12 : (List (List Int))))), .dat (en (v16 : Int)), .dat (en (v20 : (List Int))), .dat (en (r21 : (List Int))), .dat (en (v37 : Int)), .un]) (ds_set (i := 9) (S1 := [.dat (en (a0 : (List (List Str)))), .dat (en (a1 : (List (T2 Str Int)))), .dat (en (a2 : Int)), .own (.lst (List.map Enc.enc (f9 : (List (List Int))))), .un, .own (.lst (List.map Enc.enc (l12 : (List (List Int))))), .dat (en (v16 : Int)), .dat (en (v20 : (List Int))), .dat (en (r21 : (List Int))), .dat (en (t33 : Int)), .un]) rfl rfl (de_eq (d := en ((t33 + (1 : Int)) : Int)) (d1 := en (v37 : Int)) (de_add (de_var rfl rfl) (de_int)) (by rw [inj_s hv37]))) ?_
    obtain rfl := inj_r hm
    exact dss_nil (.eq (.eq (.eq (.eq (.eq (.eq (.eq (.eq (.eq (.eq (.eq .nil)))))))))))
  obtain ⟨r39, hr39, hm⟩ := bnd hm
  obtain ⟨u40, hu40, hm⟩ := bnd hm
  obtain rfl := inj_r hm
  exact dss_end (ds_le (S := _) (ds_ret (de_sameT (x := (r39 : (List Int))) (y := (rng 0 f38)) rfl (da_dat (de_call (d := (en (r39 : (List Int)))) (C := C_first_sentences) (n := 2) rfl (da_dat (de_var rfl rfl) (da_dat (de_var rfl rfl) (da_nil))) (.dat (.dat .nil)) ⟨_, _, r39, hr39, rfl, rfl, rfl⟩ .none) (da_dat (de_tupRg1 rfl rfl (de_var rfl rfl) hu40) da_nil)))) (.ret (.un rfl (.un rfl (.un rfl (.un rfl (.eq (.un rfl (.un rfl (.un rfl (.un rfl (.un rfl (.eq .nil)))))))))))))
theorem h__law_is_best_right {P : Program} {w : World} {K : PySem.W.Frag} {mg : Str → Option Value} {base : Heap} {k : Nat} {f : Addr} {fd : FuncData} (F : Fun K "_law_is_best_right" "_law_is_best_right" (topS 19) f fd) (hm : mg "_law_is_best_right" = some (.ref f)) (hb : Binds K fd ["sentences", "table", "most"] []) (z : ∀ x ∈ g__law_is_best_right.blt ++ g__law_is_best_right.hid, mg x = none) (H0 : Has P w K mg base k "_law_greedy" 3 C__law_greedy) (H1 : Has P w K mg base k "_law_same" 2 (sameC 8)) (H2 : Has P w K mg base k "first_sentences" 2 C_first_sentences) (H3 : Has P w K mg base k "_law_worth" 3 C__law_worth) (H4 : Has P w K mg base k "_law_long" 2 C__law_long) (H5 : Has P w K mg base k "best_brief" 3 C_best_brief) (H6 : Has P w K mg base k "greedy_brief" 3 C_greedy_brief) : Has P w K mg base (k + 1) "_law_is_best_right" 3 C__law_is_best_right :=
  has_mk F hm hb (fn_ok F (N := ["sentences", "table", "most", "sets", "k", "fit", "best", "least", "greedy", "first", "row"]) (G := g__law_is_best_right) ⟨rfl, rfl, rfl, by decide +kernel, rfl, by decide +kernel, by decide +kernel⟩ rfl (by decide +kernel) rfl rfl rfl z (fun x m C e => by
    have e := lookup_mem e
    simp only [g__law_is_best_right, List.cons_append, List.nil_append, List.mem_cons, List.not_mem_nil, Prod.mk.injEq, or_false] at e
    rcases e with ⟨rfl, rfl, rfl⟩ | ⟨rfl, rfl, rfl⟩ | ⟨rfl, rfl, rfl⟩ | ⟨rfl, rfl, rfl⟩ | ⟨rfl, rfl, rfl⟩ | ⟨rfl, rfl, rfl⟩ | ⟨rfl, rfl, rfl⟩
    · exact H0
    · exact H1
    · exact H2
    · exact H3
    · exact H4
    · exact H5
    · exact H6) (fun T r0 T' hC _ _ => by
      obtain ⟨fuel, a0, a1, a2, r, hm, rfl, rfl, rfl⟩ := hC
      exact w__law_is_best_right _ _ _ _ _ hm) (fun T r0 T' hC => by
      obtain ⟨fuel, a0, a1, a2, r, hm, rfl, rfl, rfl⟩ := hC
      exact ⟨Enc.pure _, fun s hs => by cases hs with | head => exact rfl | tail _ hs => exact (by cases hs with | head => exact rfl | tail _ hs => exact (by cases hs with | head => exact rfl | tail _ hs => exact (by cases hs)))⟩))
/-! ### needless_in -/
def m_needless_in (a0 : (List (List Str))) (a1 : (List (T2 Str Int))) (a2 : (List Int)) : Option (List Int) :=
  (m_worth_of_brief a0 a1 a2).bind fun r1 =>
  (loopF (fun (t2 : (List Int)) (x3 : Int) =>
  ((some (((List.filter (fun (x4 : Int) => (!decide (x4 = x3))) a2).map (fun (x4 : Int) => (x4 : Int))) : (List Int))).bind fun v5 =>
  (m_worth_of_brief a0 a1 v5).bind fun r6 =>
  ((if (decide (r6 = r1)) = true then
    ((chkN t2.length).bind fun u8 =>
    some (t2 ++ [x3]))
  else
    (some t2) : Option (List Int))).bind fun j9 =>
  some j9 : Option (List Int))) ([] : List Int) a2).bind fun f10 =>
  some (f10 : (List Int))
def C_needless_in : Contract := fun T r0 T' => ∃ (a0 : (List (List Str))) (a1 : (List (T2 Str Int))) (a2 : (List Int)) (r : (List Int)), m_needless_in a0 a1 a2 = some r ∧ T = [.dat (en (a0 : (List (List Str)))), .dat (en (a1 : (List (T2 Str Int)))), .dat (en (a2 : (List Int)))] ∧ r0 = .dat (en (r : (List Int))) ∧ T' = [.un, .un, .un]
def g_needless_in : Cxt where
  N := ["sentences", "table", "told", "whole", "found", "number", "left", "own"]
  sc := defScope (topS 6)
  tab := [("sentences", 0), ("table", 1), ("told", 2), ("whole", 3), ("found", 4), ("number", 5), ("left", 6)]
  loc := ["whole", "found", "number", "left"]
  fnc := fun _ => true
  blt := ["tuple"]
  fns := [("worth_of_brief", 3, C_worth_of_brief)]
  hid := []
  hfns := []
theorem w_needless_in (a0 : (List (List Str))) (a1 : (List (T2 Str Int))) (a2 : (List Int)) (r : (List Int)) (hm : m_needless_in a0 a1 a2 = some r) : DSs g_needless_in (defBody (topS 6)) [.dat (en (a0 : (List (List Str)))), .dat (en (a1 : (List (T2 Str Int)))), .dat (en (a2 : (List Int))), .un, .un, .un, .un, .un] (.ret (.dat (en (r : (List Int)))) [.un, .un, .un, .un, .un, .un, .un, .un]) := by
  unfold m_needless_in at hm
  obtain ⟨r1, hr1, hm⟩ := bnd hm
  refine dss_cons (S1 := [.dat (en (a0 : (List (List Str)))), .dat (en (a1 : (List (T2 Str Int)))), .dat (en (a2 : (List Int))), .dat (en (r1 : Int)), .un, .un, .un, .un]) (ds_set (i := 3) (S1 := [.dat (en (a0 : (List (List Str)))), .dat (en (a1 : (List (T2 Str Int)))), .dat (en (a2 : (List Int))), .un, .un, .un, .un, .un]) rfl rfl (d := en (r1 : Int)) (de_call (d := (en (r1 : Int))) (C := C_worth_of_brief) (n := 3) rfl (da_dat (de_var rfl rfl) (da_dat (de_var rfl rfl) (da_dat (de_var rfl rfl) (da_nil)))) (.dat (.dat (.dat .nil))) ⟨_, _, _, r1, hr1, rfl, rfl, rfl⟩ .none)) ?_
  refine dss_cons (S1 := [.dat (en (a0 : (List (List Str)))), .dat (en (a1 : (List (T2 Str Int)))), .dat (en (a2 : (List Int))), .dat (en (r1 : Int)), .own (.lst (List.map Enc.enc (([] : List Int) : (List Int)))), .un, .un, .un]) (ds_setO (i := 4) (S1 := [.dat (en (a0 : (List (List Str)))), .dat (en (a1 : (List (T2 Str Int)))), .dat (en (a2 : (List Int))), .dat (en (r1 : Int)), .un, .un, .un, .un]) rfl rfl (df_lst (dd_nil))) ?_
  obtain ⟨f10, hf10, hm⟩ := bnd hm
  refine dss_cons (S1 := [.dat (en (a0 : (List (List Str)))), .dat (en (a1 : (List (T2 Str Int)))), .dat (en (a2 : (List Int))), .dat (en (r1 : Int)), .own (.lst (List.map Enc.enc (f10 : (List Int)))), .un, .un, .un]) (ds_forF (t0 := (([] : List Int) : (List Int))) (f := Enc.enc) (fun (t2 : (List Int)) => [.dat (en (a0 : (List (List Str)))), .dat (en (a1 : (List (T2 Str Int)))), .dat (en (a2 : (List Int))), .dat (en (r1 : Int)), .own (.lst (List.map Enc.enc (t2 : (List Int)))), .un, .un, .un]) (fun (t2 : (List Int)) (x3 : Int) => [.dat (en (a0 : (List (List Str)))), .dat (en (a1 : (List (T2 Str Int)))), .dat (en (a2 : (List Int))), .dat (en (r1 : Int)), .own (.lst (List.map Enc.enc (t2 : (List Int)))), .dat (en (x3 : Int)), .un, .un]) (di_tup (de_var rfl rfl)) (show Wk [.dat (en (a0 : (List (List Str)))), .dat (en (a1 : (List (T2 Str Int)))), .dat (en (a2 : (List Int))), .dat (en (r1 : Int)), .own (.lst (List.map Enc.enc (([] : List Int) : (List Int)))), .un, .un, .un] _ from (.eq (.eq (.eq (.eq (.eq (.eq (.eq (.eq .nil))))))))) (fun t2 x3 _ => dg_name (i := 5) rfl rfl) (fun t2 x3 t' _ hm => ?_) hf10) ?_
  · obtain ⟨v5, hv5, hm⟩ := bnd hm
    refine dss_cons (S1 := [.dat (en (a0 : (List (List Str)))), .dat (en (a1 : (List (T2 Str Int)))), .dat (en (a2 : (List Int))), .dat (en (r1 : Int)), .own (.lst (List.map Enc.enc (t2 : (List Int)))), .dat (en (x3 : Int)), .dat (en (v5 : (List Int))), .un]) (ds_set (i := 6) (S1 := [.dat (en (a0 : (List (List Str)))), .dat (en (a1 : (List (T2 Str Int)))), .dat (en (a2 : (List Int))), .dat (en (r1 : Int)), .own (.lst (List.map Enc.enc (t2 : (List Int)))), .dat (en (x3 : Int)), .un, .un]) rfl rfl (de_eq (d := en (((List.filter (fun (x4 : Int) => (!decide (x4 = x3))) a2).map (fun (x4 : Int) => (x4 : Int))) : (List Int))) (d1 := en (v5 : (List Int))) (de_tupL (ds := List.map Enc.enc (((List.filter (fun (x4 : Int) => (!decide (x4 = x3))) a2).map (fun (x4 : Int) => (x4 : Int))) : (List Int))) rfl (db_new (df_lc (lc_okP (own := [("own", 7)]) (tab := [("number", 5), ("own", 7)]) (loc := ["own"]) (f := Enc.enc) (h := Enc.enc) (xs := a2) (cd := fun (x4 : Int) => (!decide (x4 = x3))) (el := fun (x4 : Int) => (x4 : Int)) (tgt := fun x4 => [.dat (en (a0 : (List (List Str)))), .dat (en (a1 : (List (T2 Str Int)))), .dat (en (a2 : (List Int))), .dat (en (r1 : Int)), .own (.lst (List.map Enc.enc (t2 : (List Int)))), .dat (en (x3 : Int)), .un, .dat (en (x4 : Int))]) (by decide +kernel) (by decide +kernel) (dz_tup (de_var rfl rfl)) rfl (by decide) (fun x4 _ => dg_name (i := 7) rfl rfl) (fun x4 _ => dts_one (dt_c (cr_neT (x := (x4 : Int)) (y := x3)) (de_var rfl rfl) (de_var rfl rfl))) (fun x4 _ _ => de_var rfl rfl) (fun _ => rfl))))) (by rw [inj_s hv5]))) ?_
    obtain ⟨r6, hr6, hm⟩ := bnd hm
    obtain ⟨j9, hj9, hm⟩ := bnd hm
    refine dss_cons (S1 := [.dat (en (a0 : (List (List Str)))), .dat (en (a1 : (List (T2 Str Int)))), .dat (en (a2 : (List Int))), .dat (en (r1 : Int)), .own (.lst (List.map Enc.enc (j9 : (List Int)))), .dat (en (x3 : Int)), .dat (en (v5 : (List Int))), .un]) (ds_if (dt_c (cr_eqT (x := (r6 : Int)) (y := r1)) (de_call (d := (en (r6 : Int))) (C := C_worth_of_brief) (n := 3) rfl (da_dat (de_var rfl rfl) (da_dat (de_var rfl rfl) (da_dat (de_var rfl rfl) (da_nil)))) (.dat (.dat (.dat .nil))) ⟨_, _, _, r6, hr6, rfl, rfl, rfl⟩ .none) (de_var rfl rfl)) (fun z => ?_) (fun z => ?_)) ?_
    · clear hm
      have hm := ite_t hj9 z
      obtain ⟨u8, hu8, hm⟩ := bnd hm
      refine dss_cons (S1 := [.dat (en (a0 : (List (List Str)))), .dat (en (a1 : (List (T2 Str Int)))), .dat (en (a2 : (List Int))), .dat (en (r1 : Int)), .own (.lst (List.map Enc.enc ((t2 ++ [x3]) : (List Int)))), .dat (en (x3 : Int)), .dat (en (v5 : (List Int))), .un]) (ds_expr (de_appendT (i := 4) (xs := (t2 : (List Int))) (y := x3) rfl rfl .own (de_var rfl rfl) rfl .own hu8)) ?_
      obtain rfl := inj_r hm
      exact dss_nil (.eq (.eq (.eq (.eq (.eq (.eq (.eq (.eq .nil))))))))
    · clear hm
      have hm := ite_f hj9 z
      obtain rfl := inj_r hm
      exact dss_nil (.eq (.eq (.eq (.eq (.eq (.eq (.eq (.eq .nil))))))))
    obtain rfl := inj_r hm
    exact dss_nil (.eq (.eq (.eq (.eq (.eq (.un rfl (.un rfl (.eq .nil))))))))
  obtain rfl := inj_r hm
  exact dss_end (ds_le (S := _) (ds_ret (de_lend (i := 4) rfl (.inl rfl) (de_tupL (ds := List.map Enc.enc (f10 : (List Int))) rfl (db_var rfl rfl)) rfl)) (.ret (.un rfl (.un rfl (.un rfl (.un rfl (.un rfl (.eq (.eq (.eq .nil))))))))))
theorem h_needless_in {P : Program} {w : World} {K : PySem.W.Frag} {mg : Str → Option Value} {base : Heap} {k : Nat} {f : Addr} {fd : FuncData} (F : Fun K "needless_in" "needless_in" (topS 6) f fd) (hm : mg "needless_in" = some (.ref f)) (hb : Binds K fd ["sentences", "table", "told"] []) (z : ∀ x ∈ g_needless_in.blt ++ g_needless_in.hid, mg x = none) (H0 : Has P w K mg base k "worth_of_brief" 3 C_worth_of_brief) : Has P w K mg base (k + 1) "needless_in" 3 C_needless_in :=
  has_mk F hm hb (fn_ok F (N := ["sentences", "table", "told", "whole", "found", "number", "left", "own"]) (G := g_needless_in) ⟨rfl, rfl, rfl, by decide +kernel, rfl, by decide +kernel, by decide +kernel⟩ rfl (by decide +kernel) rfl rfl rfl z (fun x m C e => by
    have e := lookup_mem e
    simp only [g_needless_in, List.cons_append, List.nil_append, List.mem_cons, List.not_mem_nil, Prod.mk.injEq, or_false] at e
    obtain ⟨rfl, rfl, rfl⟩ := e
    exact H0) (fun T r0 T' hC _ _ => by
      obtain ⟨a0, a1, a2, r, hm, rfl, rfl, rfl⟩ := hC
      exact w_needless_in _ _ _ _ hm) (fun T r0 T' hC => by
      obtain ⟨a0, a1, a2, r, hm, rfl, rfl, rfl⟩ := hC
      exact ⟨Enc.pure _, fun s hs => by cases hs with | head => exact rfl | tail _ hs => exact (by cases hs with | head => exact rfl | tail _ hs => exact (by cases hs with | head => exact rfl | tail _ hs => exact (by cases hs)))⟩))
/-! ### _law_is_told_right -/
def m__law_is_told_right (a0 : (List Int)) (a1 : (List (List Str))) (a2 : (List (T2 Str Int))) : Option (Bool × (List Int)) :=
  (loopM (fun (t1 : (List Int)) (x2 : Int) =>
  ((chkI ((a1.length : Int) - 0)).bind fun u3 =>
  (compM (fun (t6 : (List Int)) (x4 : Int) => (((m__law_take t6 (2 : Int)).bind fun r7 => (if (decide (r7.1 = (0 : Int))) = true then some (some x4, r7.2) else some (none, r7.2))) : Option (Option Int × (List Int)))) t1 (rng 0 (a1.length : Int))).bind fun l8 =>
  (chkI ((a1.length : Int) - 0)).bind fun u9 =>
  (compM (fun (t12 : (List Int)) (x10 : Int) => (((m__law_take t12 (2 : Int)).bind fun r13 => (if (decide (r13.1 = (0 : Int))) = true then some (some x10, r13.2) else some (none, r13.2))) : Option (Option Int × (List Int)))) l8.2 (rng 0 (a1.length : Int))).bind fun l14 =>
  (m__law_worth a1 a2 l8.1).bind fun r15 =>
  (m_worth_of_brief a1 a2 l8.1).bind fun r16 =>
  ((if (!(decide (r16 = r15))) = true then some true else ((m_words_in_brief a1 l8.1).bind fun r17 => (m__law_long a1 l8.1).bind fun r18 => some (!(decide (r17 = r18)))))).bind fun v19 =>
  if v19 = true then
    (some (Out.ret ((false, l14.2) : (Bool × (List Int)))))
  else
    ((compO (fun (x21 : Int) => (((m__law_worth_v2 a1 a2 ((List.filter (fun (x22 : Int) => (!decide (x22 = x21))) l8.1).map (fun (x22 : Int) => (x22 : Int)))).bind fun r23 => (if (decide (r23 = r15)) = true then some (some x21) else some none)) : Option (Option Int))) l8.1).bind fun l24 =>
    (m_needless_in a1 a2 l8.1).bind fun r25 =>
    if (!(decide (r25 = l24))) = true then
      (some (Out.ret ((false, l14.2) : (Bool × (List Int)))))
    else
      ((chkN (l8.1.length + l14.1.length)).bind fun u27 =>
      (chkS ((l8.1 ++ l14.1)).length).bind fun u28 =>
      (some ((sortE (setE (l8.1 ++ l14.1))) : (List Int))).bind fun v29 =>
      (m_worth_of_brief a1 a2 v29).bind fun r30 =>
      (m_worth_of_brief a1 a2 l14.1).bind fun r31 =>
      ((if (decide ((r15 + r31) < r30)) = true then some true else ((m_worth_of_brief a1 a2 v29).bind fun r32 => some (decide (r32 < r15))))).bind fun v33 =>
      if v33 = true then
        (some (Out.ret ((false, l14.2) : (Bool × (List Int)))))
      else
        (some (.nx l14.2)))) : Option (Out (Bool × (List Int)) (List Int)))) a0 (rng 0 (3 : Int))).bind fun o35 =>
  outC o35 (fun r => some r) fun t36 =>
  some ((true, t36) : (Bool × (List Int)))
def C__law_is_told_right : Contract := fun T r0 T' => ∃ (a0 : (List Int)) (a1 : (List (List Str))) (a2 : (List (T2 Str Int))) (r : (Bool × (List Int))), m__law_is_told_right a0 a1 a2 = some r ∧ T = [.io (.lst (List.map Enc.enc (a0 : (List Int)))), .dat (en (a1 : (List (List Str)))), .dat (en (a2 : (List (T2 Str Int))))] ∧ r0 = .dat (en (r.1 : Bool)) ∧ T' = [.io (.lst (List.map Enc.enc (r.2 : (List Int)))), .un, .un]
def g__law_is_told_right : Cxt where
  N := ["draws", "sentences", "table", "turn", "told", "other", "whole", "needless", "both", "k", "own"]
  sc := defScope (topS 20)
  tab := [("draws", 0), ("sentences", 1), ("table", 2), ("turn", 3), ("told", 4), ("other", 5), ("whole", 6), ("needless", 7), ("both", 8)]
  loc := ["turn", "told", "other", "whole", "needless", "both"]
  fnc := fun _ => true
  blt := ["range", "tuple", "sorted", "set", "len"]
  fns := [("_law_worth", 3, C__law_worth), ("_law_same", 2, sameC 8), ("needless_in", 3, C_needless_in), ("worth_of_brief", 3, C_worth_of_brief), ("words_in_brief", 2, C_words_in_brief), ("_law_long", 2, C__law_long)]
  hid := []
  hfns := [("_law_take", 2, C__law_take)]
theorem w__law_is_told_right (a0 : (List Int)) (a1 : (List (List Str))) (a2 : (List (T2 Str Int))) (r : (Bool × (List Int))) (hm : m__law_is_told_right a0 a1 a2 = some r) : DSs g__law_is_told_right (defBody (topS 20)) [.io (.lst (List.map Enc.enc (a0 : (List Int)))), .dat (en (a1 : (List (List Str)))), .dat (en (a2 : (List (T2 Str Int)))), .un, .un, .un, .un, .un, .un, .un, .un] (.ret (.dat (en (r.1 : Bool))) [.io (.lst (List.map Enc.enc (r.2 : (List Int)))), .un, .un, .un, .un, .un, .un, .un, .un, .un, .un]) := by
  unfold m__law_is_told_right at hm
  obtain ⟨o35, ho35, hm⟩ := bnd hm
  refine dss_for (t0 := (a0 : (List Int))) (f := Enc.enc) (fun (t1 : (List Int)) => [.io (.lst (List.map Enc.enc (t1 : (List Int)))), .dat (en (a1 : (List (List Str)))), .dat (en (a2 : (List (T2 Str Int)))), .un, .un, .un, .un, .un, .un, .un, .un]) (fun (t1 : (List Int)) (x2 : Int) => [.io (.lst (List.map Enc.enc (t1 : (List Int)))), .dat (en (a1 : (List (List Str)))), .dat (en (a2 : (List (T2 Str Int)))), .dat (en (x2 : Int)), .un, .un, .un, .un, .un, .un, .un]) (fun (r : (Bool × (List Int))) => .dat (en (r.1 : Bool))) (fun (r : (Bool × (List Int))) => [.io (.lst (List.map Enc.enc (r.2 : (List Int)))), .un, .un, .un, .un, .un, .un, .un, .un, .un, .un]) (di_range1 rfl (de_int)) (show Wk [.io (.lst (List.map Enc.enc (a0 : (List Int)))), .dat (en (a1 : (List (List Str)))), .dat (en (a2 : (List (T2 Str Int)))), .un, .un, .un, .un, .un, .un, .un, .un] _ from (.eq (.eq (.eq (.eq (.eq (.eq (.eq (.eq (.eq (.eq (.eq .nil)))))))))))) (fun t1 x2 _ => dg_name (i := 3) rfl rfl) (fun t1 x2 out _ hm => ?_) ho35 (fun t36 ht => ?_) (fun r hr => ?_)
  · obtain ⟨u3, hu3, hm⟩ := bnd hm
    obtain ⟨l8, hl8, hm⟩ := bnd hm
    refine dss_cons (S1 := [.io (.lst (List.map Enc.enc (l8.2 : (List Int)))), .dat (en (a1 : (List (List Str)))), .dat (en (a2 : (List (T2 Str Int)))), .dat (en (x2 : Int)), .dat (en (l8.1 : (List Int))), .un, .un, .un, .un, .un, .un]) (ds_set (i := 4) (S1 := [.io (.lst (List.map Enc.enc (l8.2 : (List Int)))), .dat (en (a1 : (List (List Str)))), .dat (en (a2 : (List (T2 Str Int)))), .dat (en (x2 : Int)), .un, .un, .un, .un, .un, .un, .un]) rfl rfl (d := en (l8.1 : (List Int))) (de_tupL (ds := List.map Enc.enc (l8.1 : (List Int))) rfl (db_new (df_lc (lc_ok (own := [("k", 9)]) (tab := [("draws", 0), ("k", 9)]) (loc := ["k"]) (f := Enc.enc) (h := Enc.enc) (xs := (rng 0 (a1.length : Int))) (ys := l8.1) (t0 := t1) (t1 := l8.2) (slots := fun t6 => [.io (.lst (List.map Enc.enc (t6 : (List Int)))), .dat (en (a1 : (List (List Str)))), .dat (en (a2 : (List (T2 Str Int)))), .dat (en (x2 : Int)), .un, .un, .un, .un, .un, .un, .un]) (tgt := fun t6 x4 => [.io (.lst (List.map Enc.enc (t6 : (List Int)))), .dat (en (a1 : (List (List Str)))), .dat (en (a2 : (List (T2 Str Int)))), .dat (en (x2 : Int)), .un, .un, .un, .un, .un, .dat (en (x4 : Int)), .un]) (by decide +kernel) (by decide +kernel) (dz_of (di_range1 rfl (de_lenTT (xs := (a1 : (List (List Str)))) rfl (de_var rfl rfl))) (chkI_rng hu3)) rfl (fun _ i hi => by have hi : i ∈ [9] := hi; exact (by cases hi with | head => rfl | tail _ hi => exact (by cases hi))) (fun _ => rfl) (by decide) (fun t6 x4 _ => dg_name (i := 9) rfl rfl) (fun t6 x4 o t' _ hm => (by have hm := hm; obtain ⟨r7, hr7, hm⟩ := bnd hm; by_cases hk : (decide (r7.1 = (0 : Int))) = true; (have hm := ite_t hm hk; obtain ⟨rfl, rfl⟩ := inj_p hm; exact ⟨_, _, dts_one (dt_eq (dt_c (cr_eqT (x := (r7.1 : Int)) (y := (0 : Int))) (de_call (S1 := [.io (.lst (List.map Enc.enc (t6 : (List Int)))), .dat (en (a1 : (List (List Str)))), .dat (en (a2 : (List (T2 Str Int)))), .dat (en (x2 : Int)), .un, .un, .un, .un, .un, .dat (en (x4 : Int)), .un]) (S2 := [.io (.lst (List.map Enc.enc (r7.2 : (List Int)))), .dat (en (a1 : (List (List Str)))), .dat (en (a2 : (List (T2 Str Int)))), .dat (en (x2 : Int)), .un, .un, .un, .un, .un, .dat (en (x4 : Int)), .un]) (d := (en (r7.1 : Int))) (C := C__law_take) (n := 2) rfl (da_slot (i := 0) rfl rfl rfl (da_dat (de_int) (da_nil))) (.io rfl (.inr rfl) rfl (.dat .nil)) ⟨_, _, r7, hr7, rfl, rfl, rfl⟩ (beh rfl rfl rfl)) (de_int)) hk), de_var rfl rfl, rfl⟩); (have hm := ite_f hm (ne_t hk); obtain ⟨rfl, rfl⟩ := inj_p hm; exact ⟨_, dts_one (dt_eq (dt_c (cr_eqT (x := (r7.1 : Int)) (y := (0 : Int))) (de_call (S1 := [.io (.lst (List.map Enc.enc (t6 : (List Int)))), .dat (en (a1 : (List (List Str)))), .dat (en (a2 : (List (T2 Str Int)))), .dat (en (x2 : Int)), .un, .un, .un, .un, .un, .dat (en (x4 : Int)), .un]) (S2 := [.io (.lst (List.map Enc.enc (r7.2 : (List Int)))), .dat (en (a1 : (List (List Str)))), .dat (en (a2 : (List (T2 Str Int)))), .dat (en (x2 : Int)), .un, .un, .un, .un, .un, .dat (en (x4 : Int)), .un]) (d := (en (r7.1 : Int))) (C := C__law_take) (n := 2) rfl (da_slot (i := 0) rfl rfl rfl (da_dat (de_int) (da_nil))) (.io rfl (.inr rfl) rfl (.dat .nil)) ⟨_, _, r7, hr7, rfl, rfl, rfl⟩ (beh rfl rfl rfl)) (de_int)) (ne_t hk)), rfl⟩))) hl8))))) ?_
    obtain ⟨u9, hu9, hm⟩ := bnd hm
    obtain ⟨l14, hl14, hm⟩ := bnd hm
    refine dss_cons (S1 := [.io (.lst (List.map Enc.enc (l14.2 : (List Int)))), .dat (en (a1 : (List (List Str)))), .dat (en (a2 : (List (T2 Str Int)))), .dat (en (x2 : Int)), .dat (en (l8.1 : (List Int))), .dat (en (l14.1 : (List Int))), .un, .un, .un, .un, .un]) (ds_set (i := 5) (S1 := [.io (.lst (List.map Enc.enc (l14.2 : (List Int)))), .dat (en (a1 : (List (List Str)))), .dat (en (a2 : (List (T2 Str Int)))), .dat (en (x2 : Int)), .dat (en (l8.1 : (List Int))), .un, .un, .un, .un, .un, .un]) rfl rfl (d := en (l14.1 : (List Int))) (de_tupL (ds := List.map Enc.enc (l14.1 : (List Int))) rfl (db_new (df_lc (lc_ok (own := [("k", 9)]) (tab := [("draws", 0), ("k", 9)]) (loc := ["k"]) (f := Enc.enc) (h := Enc.enc) (xs := (rng 0 (a1.length : Int))) (ys := l14.1) (t0 := l8.2) (t1 := l14.2) (slots := fun t12 => [.io (.lst (List.map Enc.enc (t12 : (List Int)))), .dat (en (a1 : (List (List Str)))), .dat (en (a2 : (List (T2 Str Int)))), .dat (en (x2 : Int)), .dat (en (l8.1 : (List Int))), .un, .un, .un, .un, .un, .un]) (tgt := fun t12 x10 => [.io (.lst (List.map Enc.enc (t12 : (List Int)))), .dat (en (a1 : (List (List Str)))), .dat (en (a2 : (List (T2 Str Int)))), .dat (en (x2 : Int)), .dat (en (l8.1 : (List Int))), .un, .un, .un, .un, .dat (en (x10 : Int)), .un]) (by decide +kernel) (by decide +kernel) (dz_of (di_range1 rfl (de_lenTT (xs := (a1 : (List (List Str)))) rfl (de_var rfl rfl))) (chkI_rng hu9)) rfl (fun _ i hi => by have hi : i ∈ [9] := hi; exact (by cases hi with | head => rfl | tail _ hi => exact (by cases hi))) (fun _ => rfl) (by decide) (fun t12 x10 _ => dg_name (i := 9) rfl rfl) (fun t12 x10 o t' _ hm => (by have hm := hm; obtain ⟨r13, hr13, hm⟩ := bnd hm; by_cases hk : (decide (r13.1 = (0 : Int))) = true; (have hm := ite_t hm hk; obtain ⟨rfl, rfl⟩ := inj_p hm; exact ⟨_, _, dts_one (dt_eq (dt_c (cr_eqT (x := (r13.1 : Int)) (y := (0 : Int))) (de_call (S1 := [.io (.lst (List.map Enc.enc (t12 : (List Int)))), .dat (en (a1 : (List (List Str)))), .dat (en (a2 : (List (T2 Str Int)))), .dat (en (x2 : Int)), .dat (en (l8.1 : (List Int))), .un, .un, .un, .un, .dat (en (x10 : Int)), .un]) (S2 := [.io (.lst (List.map Enc.enc (r13.2 : (List Int)))), .dat (en (a1 : (List (List Str)))), .dat (en (a2 : (List (T2 Str Int)))), .dat (en (x2 : Int)), .dat (en (l8.1 : (List Int))), .un, .un, .un, .un, .dat (en (x10 : Int)), .un]) (d := (en (r13.1 : Int))) (C := C__law_take) (n := 2) rfl (da_slot (i := 0) rfl rfl rfl (da_dat (de_int) (da_nil))) (.io rfl (.inr rfl) rfl (.dat .nil)) ⟨_, _, r13, hr13, rfl, rfl, rfl⟩ (beh rfl rfl rfl)) (de_int)) hk), de_var rfl rfl, rfl⟩); (have hm := ite_f hm (ne_t hk); obtain ⟨rfl, rfl⟩ := inj_p hm; exact ⟨_, dts_one (dt_eq (dt_c (cr_eqT (x := (r13.1 : Int)) (y := (0 : Int))) (de_call (S1 := [.io (.lst (List.map Enc.enc (t12 : (List Int)))), .dat (en (a1 : (List (List Str)))), .dat (en (a2 : (List (T2 Str Int)))), .dat (en (x2 : Int)), .dat (en (l8.1 : (List Int))), .un, .un, .un, .un, .dat (en (x10 : Int)), .un]) (S2 := [.io (.lst (List.map Enc.enc (r13.2 : (List Int)))), .dat (en (a1 : (List (List Str)))), .dat (en (a2 : (List (T2 Str Int)))), .dat (en (x2 : Int)), .dat (en (l8.1 : (List Int))), .un, .un, .un, .un, .dat (en (x10 : Int)), .un]) (d := (en (r13.1 : Int))) (C := C__law_take) (n := 2) rfl (da_slot (i := 0) rfl rfl rfl (da_dat (de_int) (da_nil))) (.io rfl (.inr rfl) rfl (.dat .nil)) ⟨_, _, r13, hr13, rfl, rfl, rfl⟩ (beh rfl rfl rfl)) (de_int)) (ne_t hk)), rfl⟩))) hl14))))) ?_
    obtain ⟨r15, hr15, hm⟩ := bnd hm
    refine dss_cons (S1 := [.io (.lst (List.map Enc.enc (l14.2 : (List Int)))), .dat (en (a1 : (List (List Str)))), .dat (en (a2 : (List (T2 Str Int)))), .dat (en (x2 : Int)), .dat (en (l8.1 : (List Int))), .dat (en (l14.1 : (List Int))), .dat (en (r15 : Int)), .un, .un, .un, .un]) (ds_set (i := 6) (S1 := [.io (.lst (List.map Enc.enc (l14.2 : (List Int)))), .dat (en (a1 : (List (List Str)))), .dat (en (a2 : (List (T2 Str Int)))), .dat (en (x2 : Int)), .dat (en (l8.1 : (List Int))), .dat (en (l14.1 : (List Int))), .un, .un, .un, .un, .un]) rfl rfl (d := en (r15 : Int)) (de_call (d := (en (r15 : Int))) (C := C__law_worth) (n := 3) rfl (da_dat (de_var rfl rfl) (da_dat (de_var rfl rfl) (da_dat (de_var rfl rfl) (da_nil)))) (.dat (.dat (.dat .nil))) (.inl ⟨_, _, _, r15, hr15, rfl, rfl, rfl⟩) .none)) ?_
    obtain ⟨r16, hr16, hm⟩ := bnd hm
    obtain ⟨v19, hv19, hm⟩ := bnd hm
    by_cases k20 : v19 = true
    · have hm := ite_t hm k20
      refine dss_end (ds_if (dt_eq (dt_w (dw_or (k2 := v19) (S2 := [.io (.lst (List.map Enc.enc (l14.2 : (List Int)))), .dat (en (a1 : (List (List Str)))), .dat (en (a2 : (List (T2 Str Int)))), .dat (en (x2 : Int)), .dat (en (l8.1 : (List Int))), .dat (en (l14.1 : (List Int))), .dat (en (r15 : Int)), .un, .un, .un, .un]) (dt_not (dt_val (de_sameT (x := (r16 : Int)) (y := r15) rfl (da_dat (de_call (d := (en (r16 : Int))) (C := C_worth_of_brief) (n := 3) rfl (da_dat (de_var rfl rfl) (da_dat (de_var rfl rfl) (da_dat (de_var rfl rfl) (da_nil)))) (.dat (.dat (.dat .nil))) ⟨_, _, _, r16, hr16, rfl, rfl, rfl⟩ .none) (da_dat (de_var rfl rfl) da_nil))))) (fun z => by have hm := ite_f hv19 z; obtain ⟨r17, hr17, hm⟩ := bnd hm; obtain ⟨r18, hr18, hm⟩ := bnd hm; obtain rfl := inj_r hm; exact (dw_or1 (dt_not (dt_val (de_sameT (x := (r17 : Int)) (y := r18) rfl (da_dat (de_call (d := (en (r17 : Int))) (C := C_words_in_brief) (n := 2) rfl (da_dat (de_var rfl rfl) (da_dat (de_var rfl rfl) (da_nil))) (.dat (.dat .nil)) ⟨_, _, r17, hr17, rfl, rfl, rfl⟩ .none) (da_dat (de_call (d := (en (r18 : Int))) (C := C__law_long) (n := 2) rfl (da_dat (de_var rfl rfl) (da_dat (de_var rfl rfl) (da_nil))) (.dat (.dat .nil)) (.inl ⟨_, _, r18, hr18, rfl, rfl, rfl⟩) .none) da_nil))))))) (fun z => by have hm := ite_t hv19 z; obtain rfl := inj_r hm; exact ⟨rfl, rfl⟩))) k20) (fun _ => ?_) (fun z => by cases z)) (lv_of (by repeat (first | exact lv_ret | exact lv_bk | refine lv_bind fun _ => ?_ | refine lv_ite ?_ ?_ | refine lv_outC (fun _ => ?_) (fun _ => ?_))) hm)
      obtain rfl := inj_r hm
      exact dss_end (ds_le (S := _) (ds_ret (de_bl)) (.ret (.eq (.un rfl (.un rfl (.un rfl (.un rfl (.un rfl (.un rfl (.eq (.eq (.eq (.eq .nil)))))))))))))
    have hm := ite_f hm (ne_t k20)
    refine dss_cons (ds_if (dt_eq (dt_w (dw_or (k2 := v19) (S2 := [.io (.lst (List.map Enc.enc (l14.2 : (List Int)))), .dat (en (a1 : (List (List Str)))), .dat (en (a2 : (List (T2 Str Int)))), .dat (en (x2 : Int)), .dat (en (l8.1 : (List Int))), .dat (en (l14.1 : (List Int))), .dat (en (r15 : Int)), .un, .un, .un, .un]) (dt_not (dt_val (de_sameT (x := (r16 : Int)) (y := r15) rfl (da_dat (de_call (d := (en (r16 : Int))) (C := C_worth_of_brief) (n := 3) rfl (da_dat (de_var rfl rfl) (da_dat (de_var rfl rfl) (da_dat (de_var rfl rfl) (da_nil)))) (.dat (.dat (.dat .nil))) ⟨_, _, _, r16, hr16, rfl, rfl, rfl⟩ .none) (da_dat (de_var rfl rfl) da_nil))))) (fun z => by have hm := ite_f hv19 z; obtain ⟨r17, hr17, hm⟩ := bnd hm; obtain ⟨r18, hr18, hm⟩ := bnd hm; obtain rfl := inj_r hm; exact (dw_or1 (dt_not (dt_val (de_sameT (x := (r17 : Int)) (y := r18) rfl (da_dat (de_call (d := (en (r17 : Int))) (C := C_words_in_brief) (n := 2) rfl (da_dat (de_var rfl rfl) (da_dat (de_var rfl rfl) (da_nil))) (.dat (.dat .nil)) ⟨_, _, r17, hr17, rfl, rfl, rfl⟩ .none) (da_dat (de_call (d := (en (r18 : Int))) (C := C__law_long) (n := 2) rfl (da_dat (de_var rfl rfl) (da_dat (de_var rfl rfl) (da_nil))) (.dat (.dat .nil)) (.inl ⟨_, _, r18, hr18, rfl, rfl, rfl⟩) .none) da_nil))))))) (fun z => by have hm := ite_t hv19 z; obtain rfl := inj_r hm; exact ⟨rfl, rfl⟩))) (ne_t k20)) (fun z => by cases z) (fun _ => dss_nil .refl)) ?_
    obtain ⟨l24, hl24, hm⟩ := bnd hm
    refine dss_cons (S1 := [.io (.lst (List.map Enc.enc (l14.2 : (List Int)))), .dat (en (a1 : (List (List Str)))), .dat (en (a2 : (List (T2 Str Int)))), .dat (en (x2 : Int)), .dat (en (l8.1 : (List Int))), .dat (en (l14.1 : (List Int))), .dat (en (r15 : Int)), .dat (en (l24 : (List Int))), .un, .un, .un]) (ds_set (i := 7) (S1 := [.io (.lst (List.map Enc.enc (l14.2 : (List Int)))), .dat (en (a1 : (List (List Str)))), .dat (en (a2 : (List (T2 Str Int)))), .dat (en (x2 : Int)), .dat (en (l8.1 : (List Int))), .dat (en (l14.1 : (List Int))), .dat (en (r15 : Int)), .un, .un, .un, .un]) rfl rfl (d := en (l24 : (List Int))) (de_tupL (ds := List.map Enc.enc (l24 : (List Int))) rfl (db_new (df_lc (lc_okO (own := [("k", 9)]) (tab := [("sentences", 1), ("table", 2), ("told", 4), ("whole", 6), ("k", 9)]) (loc := ["k"]) (f := Enc.enc) (h := Enc.enc) (xs := l8.1) (tgt := fun x21 => [.io (.lst (List.map Enc.enc (l14.2 : (List Int)))), .dat (en (a1 : (List (List Str)))), .dat (en (a2 : (List (T2 Str Int)))), .dat (en (x2 : Int)), .dat (en (l8.1 : (List Int))), .dat (en (l14.1 : (List Int))), .dat (en (r15 : Int)), .un, .un, .dat (en (x21 : Int)), .un]) (by decide +kernel) (by decide +kernel) (dz_tup (de_var rfl rfl)) rfl (by decide) (fun x21 _ => dg_name (i := 9) rfl rfl) (fun x21 o _ hm => (by have hm := hm; obtain ⟨r23, hr23, hm⟩ := bnd hm; by_cases hk : (decide (r23 = r15)) = true; (have hm := ite_t hm hk; obtain rfl := inj_r hm; exact ⟨_, _, dts_one (dt_eq (dt_c (cr_eqT (x := (r23 : Int)) (y := r15)) (de_call (d := (en (r23 : Int))) (C := C__law_worth) (n := 3) rfl (da_dat (de_var rfl rfl) (da_dat (de_var rfl rfl) (da_rd (db_new (df_lc (lc_okP (own := [("own", 10)]) (tab := [("k", 9), ("own", 10)]) (loc := ["own"]) (f := Enc.enc) (h := Enc.enc) (xs := l8.1) (cd := fun (x22 : Int) => (!decide (x22 = x21))) (el := fun (x22 : Int) => (x22 : Int)) (tgt := fun x22 => [.io (.lst (List.map Enc.enc (l14.2 : (List Int)))), .dat (en (a1 : (List (List Str)))), .dat (en (a2 : (List (T2 Str Int)))), .dat (en (x2 : Int)), .dat (en (l8.1 : (List Int))), .dat (en (l14.1 : (List Int))), .dat (en (r15 : Int)), .un, .un, .dat (en (x21 : Int)), .dat (en (x22 : Int))]) (by decide +kernel) (by decide +kernel) (dz_tup (de_var rfl rfl)) rfl (by decide) (fun x22 _ => dg_name (i := 10) rfl rfl) (fun x22 _ => dts_one (dt_c (cr_neT (x := (x22 : Int)) (y := x21)) (de_var rfl rfl) (de_var rfl rfl))) (fun x22 _ _ => de_var rfl rfl) (fun _ => rfl)))) (da_nil)))) (.dat (.dat (.rd .nil))) (.inr (⟨_, _, _, r23, hr23, rfl, rfl, rfl⟩)) .none) (de_var rfl rfl)) hk), de_var rfl rfl, rfl⟩); (have hm := ite_f hm (ne_t hk); obtain rfl := inj_r hm; exact ⟨_, dts_one (dt_eq (dt_c (cr_eqT (x := (r23 : Int)) (y := r15)) (de_call (d := (en (r23 : Int))) (C := C__law_worth) (n := 3) rfl (da_dat (de_var rfl rfl) (da_dat (de_var rfl rfl) (da_rd (db_new (df_lc (lc_okP (own := [("own", 10)]) (tab := [("k", 9), ("own", 10)]) (loc := ["own"]) (f := Enc.enc) (h := Enc.enc) (xs := l8.1) (cd := fun (x22 : Int) => (!decide (x22 = x21))) (el := fun (x22 : Int) => (x22 : Int)) (tgt := fun x22 => [.io (.lst (List.map Enc.enc (l14.2 : (List Int)))), .dat (en (a1 : (List (List Str)))), .dat (en (a2 : (List (T2 Str Int)))), .dat (en (x2 : Int)), .dat (en (l8.1 : (List Int))), .dat (en (l14.1 : (List Int))), .dat (en (r15 : Int)), .un, .un, .dat (en (x21 : Int)), .dat (en (x22 : Int))]) (by decide +kernel) (by decide +kernel) (dz_tup (de_var rfl rfl)) rfl (by decide) (fun x22 _ => dg_name (i := 10) rfl rfl) (fun x22 _ => dts_one (dt_c (cr_neT (x := (x22 : Int)) (y := x21)) (de_var rfl rfl) (de_var rfl rfl))) (fun x22 _ _ => de_var rfl rfl) (fun _ => rfl)))) (da_nil)))) (.dat (.dat (.rd .nil))) (.inr (⟨_, _, _, r23, hr23, rfl, rfl, rfl⟩)) .none) (de_var rfl rfl)) (ne_t hk)), rfl⟩))) hl24))))) ?_
    obtain ⟨r25, hr25, hm⟩ := bnd hm
    by_cases k26 : (!(decide (r25 = l24))) = true
    · have hm := ite_t hm k26
      refine dss_end (ds_if (dt_eq (dt_not (dt_val (de_sameT (x := (r25 : (List Int))) (y := l24) rfl (da_dat (de_call (d := (en (r25 : (List Int)))) (C := C_needless_in) (n := 3) rfl (da_dat (de_var rfl rfl) (da_dat (de_var rfl rfl) (da_dat (de_var rfl rfl) (da_nil)))) (.dat (.dat (.dat .nil))) ⟨_, _, _, r25, hr25, rfl, rfl, rfl⟩ .none) (da_dat (de_var rfl rfl) da_nil))))) k26) (fun _ => ?_) (fun z => by cases z)) (lv_of (by repeat (first | exact lv_ret | exact lv_bk | refine lv_bind fun _ => ?_ | refine lv_ite ?_ ?_ | refine lv_outC (fun _ => ?_) (fun _ => ?_))) hm)
      obtain rfl := inj_r hm
      exact dss_end (ds_le (S := _) (ds_ret (de_bl)) (.ret (.eq (.un rfl (.un rfl (.un rfl (.un rfl (.un rfl (.un rfl (.un rfl (.eq (.eq (.eq .nil)))))))))))))
    have hm := ite_f hm (ne_t k26)
    refine dss_cons (ds_if (dt_eq (dt_not (dt_val (de_sameT (x := (r25 : (List Int))) (y := l24) rfl (da_dat (de_call (d := (en (r25 : (List Int)))) (C := C_needless_in) (n := 3) rfl (da_dat (de_var rfl rfl) (da_dat (de_var rfl rfl) (da_dat (de_var rfl rfl) (da_nil)))) (.dat (.dat (.dat .nil))) ⟨_, _, _, r25, hr25, rfl, rfl, rfl⟩ .none) (da_dat (de_var rfl rfl) da_nil))))) (ne_t k26)) (fun z => by cases z) (fun _ => dss_nil .refl)) ?_
    obtain ⟨u27, hu27, hm⟩ := bnd hm
    obtain ⟨u28, hu28, hm⟩ := bnd hm
    obtain ⟨v29, hv29, hm⟩ := bnd hm
    refine dss_cons (S1 := [.io (.lst (List.map Enc.enc (l14.2 : (List Int)))), .dat (en (a1 : (List (List Str)))), .dat (en (a2 : (List (T2 Str Int)))), .dat (en (x2 : Int)), .dat (en (l8.1 : (List Int))), .dat (en (l14.1 : (List Int))), .dat (en (r15 : Int)), .dat (en (l24 : (List Int))), .dat (en (v29 : (List Int))), .un, .un]) (ds_set (i := 8) (S1 := [.io (.lst (List.map Enc.enc (l14.2 : (List Int)))), .dat (en (a1 : (List (List Str)))), .dat (en (a2 : (List (T2 Str Int)))), .dat (en (x2 : Int)), .dat (en (l8.1 : (List Int))), .dat (en (l14.1 : (List Int))), .dat (en (r15 : Int)), .dat (en (l24 : (List Int))), .un, .un, .un]) rfl rfl (de_eq (d := en ((sortE (setE (l8.1 ++ l14.1))) : (List Int))) (d1 := en (v29 : (List Int))) (de_tupL (ds := List.map Enc.enc ((sortE (setE (l8.1 ++ l14.1))) : (List Int))) rfl (db_new (df_sortSetT (xs := ((l8.1 ++ l14.1) : (List Int))) rfl rfl (de_catTT (xs := l8.1) (ys := l14.1) (de_var rfl rfl) (de_var rfl rfl) hu27) hu28))) (by rw [inj_s hv29]))) ?_
    obtain ⟨r30, hr30, hm⟩ := bnd hm
    obtain ⟨r31, hr31, hm⟩ := bnd hm
    obtain ⟨v33, hv33, hm⟩ := bnd hm
    by_cases k34 : v33 = true
    · have hm := ite_t hm k34
      refine dss_end (ds_if (dt_eq (dt_w (dw_or (k2 := v33) (S2 := [.io (.lst (List.map Enc.enc (l14.2 : (List Int)))), .dat (en (a1 : (List (List Str)))), .dat (en (a2 : (List (T2 Str Int)))), .dat (en (x2 : Int)), .dat (en (l8.1 : (List Int))), .dat (en (l14.1 : (List Int))), .dat (en (r15 : Int)), .dat (en (l24 : (List Int))), .dat (en (v29 : (List Int))), .un, .un]) (dt_c (cr_gt) (de_call (d := (en (r30 : Int))) (C := C_worth_of_brief) (n := 3) rfl (da_dat (de_var rfl rfl) (da_dat (de_var rfl rfl) (da_dat (de_var rfl rfl) (da_nil)))) (.dat (.dat (.dat .nil))) ⟨_, _, _, r30, hr30, rfl, rfl, rfl⟩ .none) (de_add (de_var rfl rfl) (de_call (d := (en (r31 : Int))) (C := C_worth_of_brief) (n := 3) rfl (da_dat (de_var rfl rfl) (da_dat (de_var rfl rfl) (da_dat (de_var rfl rfl) (da_nil)))) (.dat (.dat (.dat .nil))) ⟨_, _, _, r31, hr31, rfl, rfl, rfl⟩ .none))) (fun z => by have hm := ite_f hv33 z; obtain ⟨r32, hr32, hm⟩ := bnd hm; obtain rfl := inj_r hm; exact (dw_or1 (dt_c (cr_lt) (de_call (d := (en (r32 : Int))) (C := C_worth_of_brief) (n := 3) rfl (da_dat (de_var rfl rfl) (da_dat (de_var rfl rfl) (da_dat (de_var rfl rfl) (da_nil)))) (.dat (.dat (.dat .nil))) ⟨_, _, _, r32, hr32, rfl, rfl, rfl⟩ .none) (de_var rfl rfl)))) (fun z => by have hm := ite_t hv33 z; obtain rfl := inj_r hm; exact ⟨rfl, rfl⟩))) k34) (fun _ => ?_) (fun z => by cases z)) (lv_of (by repeat (first | exact lv_ret | exact lv_bk | refine lv_bind fun _ => ?_ | refine lv_ite ?_ ?_ | refine lv_outC (fun _ => ?_) (fun _ => ?_))) hm)
      obtain rfl := inj_r hm
      exact dss_end (ds_le (S := _) (ds_ret (de_bl)) (.ret (.eq (.un rfl (.un rfl (.un rfl (.un rfl (.un rfl (.un rfl (.un rfl (.un rfl (.eq (.eq .nil)))))))))))))
    have hm := ite_f hm (ne_t k34)
    refine dss_cons (ds_if (dt_eq (dt_w (dw_or (k2 := v33) (S2 := [.io (.lst (List.map Enc.enc (l14.2 : (List Int)))), .dat (en (a1 : (List (List Str)))), .dat (en (a2 : (List (T2 Str Int)))), .dat (en (x2 : Int)), .dat (en (l8.1 : (List Int))), .dat (en (l14.1 : (List Int))), .dat (en (r15 : Int)), .dat (en (l24 : (List Int))), .dat (en (v29 : (List Int))), .un, .un]) (dt_c (cr_gt) (de_call (d := (en (r30 : Int))) (C := C_worth_of_brief) (n := 3) rfl (da_dat (de_var rfl rfl) (da_dat (de_var rfl rfl) (da_dat (de_var rfl rfl) (da_nil)))) (.dat (.dat (.dat .nil))) ⟨_, _, _, r30, hr30, rfl, rfl, rfl⟩ .none) (de_add (de_var rfl rfl) (de_call (d := (en (r31 : Int))) (C := C_worth_of_brief) (n := 3) rfl (da_dat (de_var rfl rfl) (da_dat (de_var rfl rfl) (da_dat (de_var rfl rfl) (da_nil)))) (.dat (.dat (.dat .nil))) ⟨_, _, _, r31, hr31, rfl, rfl, rfl⟩ .none))) (fun z => by have hm := ite_f hv33 z; obtain ⟨r32, hr32, hm⟩ := bnd hm; obtain rfl := inj_r hm; exact (dw_or1 (dt_c (cr_lt) (de_call (d := (en (r32 : Int))) (C := C_worth_of_brief) (n := 3) rfl (da_dat (de_var rfl rfl) (da_dat (de_var rfl rfl) (da_dat (de_var rfl rfl) (da_nil)))) (.dat (.dat (.dat .nil))) ⟨_, _, _, r32, hr32, rfl, rfl, rfl⟩ .none) (de_var rfl rfl)))) (fun z => by have hm := ite_t hv33 z; obtain rfl := inj_r hm; exact ⟨rfl, rfl⟩))) (ne_t k34)) (fun z => by cases z) (fun _ => dss_nil .refl)) ?_
    obtain rfl := inj_r hm
    exact dss_nil (.eq (.eq (.eq (.un rfl (.un rfl (.un rfl (.un rfl (.un rfl (.un rfl (.eq (.eq .nil)))))))))))
  rotate_left
  · subst hr
    have hm := outC_ret hm
    have hm := inj_r hm
    subst hm
    rfl
  subst ht
  have hm := outC_nx hm
  obtain rfl := inj_r hm
  exact dss_end (ds_le (S := _) (ds_ret (de_bl)) (.ret (.eq (.un rfl (.un rfl (.eq (.eq (.eq (.eq (.eq (.eq (.eq (.eq .nil)))))))))))))
theorem h__law_is_told_right {P : Program} {w : World} {K : PySem.W.Frag} {mg : Str → Option Value} {base : Heap} {k : Nat} {f : Addr} {fd : FuncData} (F : Fun K "_law_is_told_right" "_law_is_told_right" (topS 20) f fd) (hm : mg "_law_is_told_right" = some (.ref f)) (hb : Binds K fd ["draws", "sentences", "table"] []) (z : ∀ x ∈ g__law_is_told_right.blt ++ g__law_is_told_right.hid, mg x = none) (H0 : Has P w K mg base k "_law_worth" 3 C__law_worth) (H1 : Has P w K mg base k "_law_same" 2 (sameC 8)) (H2 : Has P w K mg base k "needless_in" 3 C_needless_in) (H3 : Has P w K mg base k "worth_of_brief" 3 C_worth_of_brief) (H4 : Has P w K mg base k "words_in_brief" 2 C_words_in_brief) (H5 : Has P w K mg base k "_law_long" 2 C__law_long) (H6 : Has P w K mg base k "_law_take" 2 C__law_take) : Has P w K mg base (k + 1) "_law_is_told_right" 3 C__law_is_told_right :=
  has_mk F hm hb (fn_ok F (N := ["draws", "sentences", "table", "turn", "told", "other", "whole", "needless", "both", "k", "own"]) (G := g__law_is_told_right) ⟨rfl, rfl, rfl, by decide +kernel, rfl, by decide +kernel, by decide +kernel⟩ rfl (by decide +kernel) rfl rfl rfl z (fun x m C e => by
    have e := lookup_mem e
    simp only [g__law_is_told_right, List.cons_append, List.nil_append, List.mem_cons, List.not_mem_nil, Prod.mk.injEq, or_false] at e
    rcases e with ⟨rfl, rfl, rfl⟩ | ⟨rfl, rfl, rfl⟩ | ⟨rfl, rfl, rfl⟩ | ⟨rfl, rfl, rfl⟩ | ⟨rfl, rfl, rfl⟩ | ⟨rfl, rfl, rfl⟩ | ⟨rfl, rfl, rfl⟩
    · exact H0
    · exact H1
    · exact H2
    · exact H3
    · exact H4
    · exact H5
    · exact H6) (fun T r0 T' hC _ _ => by
      obtain ⟨a0, a1, a2, r, hm, rfl, rfl, rfl⟩ := hC
      exact w__law_is_told_right _ _ _ _ hm) (fun T r0 T' hC => by
      obtain ⟨a0, a1, a2, r, hm, rfl, rfl, rfl⟩ := hC
      exact ⟨Enc.pure _, fun s hs => by cases hs with | head => exact (purs_map _) | tail _ hs => exact (by cases hs with | head => exact rfl | tail _ hs => exact (by cases hs with | head => exact rfl | tail _ hs => exact (by cases hs)))⟩))
/-! ### _law_cell -/
def m__law_cell (a0 : (List Int)) (a1 : (List Int)) : Option (Int × (List Int)) :=
  if (decide ((a0.length : Int) = (0 : Int))) = true then
    (some (((0 : Int), a1) : (Int × (List Int))))
  else
    ((m__law_take a1 (a0.length : Int)).bind fun r2 =>
    (atI a0 r2.1).bind fun v3 =>
    (atI ([(1 : Int), (-(1 : Int))] : List Int) (if (decide (v3 < (0 : Int))) = true then (1 : Int) else 0)).bind fun v4 =>
    (chkM ((if v3 < 0 then -v3 else v3) % (10 ^ 60 : Int)) v4).bind fun u5 =>
    some (((((if v3 < 0 then -v3 else v3) % (10 ^ 60 : Int)) * v4), r2.2) : (Int × (List Int))))
def C__law_cell : Contract := fun T r0 T' => ∃ (a0 : (List Int)) (a1 : (List Int)) (r : (Int × (List Int))), m__law_cell a0 a1 = some r ∧ T = [.bor (.lst (List.map Enc.enc (a0 : (List Int)))), .io (.lst (List.map Enc.enc (a1 : (List Int))))] ∧ r0 = .dat (en (r.1 : Int)) ∧ T' = [.un, .io (.lst (List.map Enc.enc (r.2 : (List Int))))]
def g__law_cell : Cxt where
  N := ["script", "draws", "cell"]
  sc := defScope (topS 11)
  tab := [("script", 0), ("draws", 1), ("cell", 2)]
  loc := ["cell"]
  fnc := fun _ => true
  blt := ["int", "len", "abs"]
  fns := [("_law_take", 2, C__law_take)]
  hid := []
  hfns := []
theorem w__law_cell (a0 : (List Int)) (a1 : (List Int)) (r : (Int × (List Int))) (hm : m__law_cell a0 a1 = some r) : DSs g__law_cell (defBody (topS 11)) [.bor (.lst (List.map Enc.enc (a0 : (List Int)))), .io (.lst (List.map Enc.enc (a1 : (List Int)))), .un] (.ret (.dat (en (r.1 : Int))) [.un, .io (.lst (List.map Enc.enc (r.2 : (List Int)))), .un]) := by
  unfold m__law_cell at hm
  by_cases k1 : (decide ((a0.length : Int) = (0 : Int))) = true
  · have hm := ite_t hm k1
    refine dss_end (ds_if (dt_eq (dt_c (cr_eqT (x := ((a0.length : Int) : Int)) (y := (0 : Int))) (de_lenLT (xs := (a0 : (List Int))) rfl (db_var rfl rfl)) (de_int)) k1) (fun _ => ?_) (fun z => by cases z)) rfl
    obtain rfl := inj_r hm
    exact dss_end (ds_le (S := _) (ds_ret (de_int)) (.ret (.un rfl (.eq (.eq .nil)))))
  have hm := ite_f hm (ne_t k1)
  refine dss_cons (ds_if (dt_eq (dt_c (cr_eqT (x := ((a0.length : Int) : Int)) (y := (0 : Int))) (de_lenLT (xs := (a0 : (List Int))) rfl (db_var rfl rfl)) (de_int)) (ne_t k1)) (fun z => by cases z) (fun _ => dss_nil .refl)) ?_
  obtain ⟨r2, hr2, hm⟩ := bnd hm
  obtain ⟨v3, hv3, hm⟩ := bnd hm
  refine dss_cons (S1 := [.bor (.lst (List.map Enc.enc (a0 : (List Int)))), .io (.lst (List.map Enc.enc (r2.2 : (List Int)))), .dat (en (v3 : Int))]) (ds_set (i := 2) (S1 := [.bor (.lst (List.map Enc.enc (a0 : (List Int)))), .io (.lst (List.map Enc.enc (r2.2 : (List Int)))), .un]) rfl rfl (d := en (v3 : Int)) (de_intI rfl (de_ixLT (xs := (a0 : (List Int))) (db_var rfl rfl) (de_call (S1 := [.bor (.lst (List.map Enc.enc (a0 : (List Int)))), .io (.lst (List.map Enc.enc (a1 : (List Int)))), .un]) (S2 := [.bor (.lst (List.map Enc.enc (a0 : (List Int)))), .io (.lst (List.map Enc.enc (r2.2 : (List Int)))), .un]) (d := (en (r2.1 : Int))) (C := C__law_take) (n := 2) rfl (da_slot (i := 1) rfl rfl rfl (da_dat (de_lenLT (xs := (a0 : (List Int))) rfl (db_var rfl rfl)) (da_nil))) (.io rfl (.inr rfl) rfl (.dat .nil)) ⟨_, _, r2, hr2, rfl, rfl, rfl⟩ (beh rfl rfl rfl)) hv3))) ?_
  obtain ⟨v4, hv4, hm⟩ := bnd hm
  obtain ⟨u5, hu5, hm⟩ := bnd hm
  obtain rfl := inj_r hm
  exact dss_end (ds_le (S := _) (ds_ret (de_mul (de_mod (de_abs rfl (de_var rfl rfl)) (de_pow de_int de_int ⟨by decide, by decide, by decide⟩) (by decide +kernel)) (de_ixLT (xs := (([(1 : Int), (-(1 : Int))] : List Int) : (List Int))) (db_new (df_lst (dd_cons (de_int) (dd_cons (de_neg (de_int)) (dd_nil))))) (de_intB rfl (de_c (cr_lt) (de_var rfl rfl) (de_int))) hv4) (chkM_ok hu5))) (.ret (.un rfl (.eq (.un rfl .nil)))))
theorem h__law_cell {P : Program} {w : World} {K : PySem.W.Frag} {mg : Str → Option Value} {base : Heap} {k : Nat} {f : Addr} {fd : FuncData} (F : Fun K "_law_cell" "_law_cell" (topS 11) f fd) (hm : mg "_law_cell" = some (.ref f)) (hb : Binds K fd ["script", "draws"] []) (z : ∀ x ∈ g__law_cell.blt ++ g__law_cell.hid, mg x = none) (H0 : Has P w K mg base k "_law_take" 2 C__law_take) : Has P w K mg base (k + 1) "_law_cell" 2 C__law_cell :=
  has_mk F hm hb (fn_ok F (N := ["script", "draws", "cell"]) (G := g__law_cell) ⟨rfl, rfl, rfl, by decide +kernel, rfl, by decide +kernel, by decide +kernel⟩ rfl (by decide +kernel) rfl rfl rfl z (fun x m C e => by
    have e := lookup_mem e
    simp only [g__law_cell, List.cons_append, List.nil_append, List.mem_cons, List.not_mem_nil, Prod.mk.injEq, or_false] at e
    obtain ⟨rfl, rfl, rfl⟩ := e
    exact H0) (fun T r0 T' hC _ _ => by
      obtain ⟨a0, a1, r, hm, rfl, rfl, rfl⟩ := hC
      exact w__law_cell _ _ _ hm) (fun T r0 T' hC => by
      obtain ⟨a0, a1, r, hm, rfl, rfl, rfl⟩ := hC
      exact ⟨Enc.pure _, fun s hs => by cases hs with | head => exact rfl | tail _ hs => exact (by cases hs with | head => exact (purs_map _) | tail _ hs => exact (by cases hs))⟩))
/-! ### law -/
def m_law (fuel : Nat) (a0 : (List Int)) : Option Bool :=
  (m__law_draws a0 (420 : Int)).bind fun r1 =>
  (m__law_cell a0 r1).bind fun r2 =>
  (m__law_take r2.2 (3 : Int)).bind fun r3 =>
  (atI ([(1 : Int), (1 : Int), ((1 : Int) + ((if r2.1 < 0 then -r2.1 else r2.1) % (10 ^ 20 : Int)))] : List Int) r3.1).bind fun v4 =>
  (loopM (fun (t5 : (List Int)) (x6 : Int) =>
  ((atI ([(9 : Int), (6 : Int)] : List Int) x6).bind fun v7 =>
  (m__law_take t5 v7).bind fun r8 =>
  (m__law_text r8.2 r8.1).bind fun r9 =>
  (m__law_table r9.2 v4).bind fun r10 =>
  (m__law_take r10.2 (41 : Int)).bind fun r11 =>
  (m__law_take r11.2 (12 : Int)).bind fun r12 =>
  (m__law_take r12.2 (2 : Int)).bind fun r13 =>
  (atI ([r11.1, r12.1] : List Int) r13.1).bind fun v14 =>
  (m__law_is_best_right fuel r9.1 r10.1 v14).bind fun r15 =>
  ((if (!r15) = true then some (true, r13.2) else ((m__law_is_told_right r13.2 r9.1 r10.1).bind fun r16 => some ((!r16.1), r16.2)))).bind fun v17 =>
  if v17.1 = true then
    (some (Out.ret (false : Bool)))
  else
    ((m__law_take v17.2 (7 : Int)).bind fun r19 =>
    (some (((2 : Int) + r19.1) : Int)).bind fun v20 =>
    (compO (fun (x21 : (T2 Str Int)) => (((chkM v20 x21.b).bind fun u22 => some (some (⟨x21.a, (v20 * x21.b)⟩ : (T2 Str Int)))) : Option (Option (T2 Str Int)))) r10.1).bind fun l23 =>
    (m_best_brief r9.1 r10.1 v14).bind fun r24 =>
    (m_best_brief r9.1 l23 v14).bind fun r25 =>
    (chkM v20 r24.a).bind fun u26 =>
    ((if (!(decide (r25 = (⟨(v20 * r24.a), r24.b⟩ : (T2 Int (List Int)))))) = true then some true else ((m_greedy_brief fuel r9.1 l23 v14).bind fun r27 => (m_greedy_brief fuel r9.1 r10.1 v14).bind fun r28 => some (!(decide (r27 = r28)))))).bind fun v29 =>
    if v29 = true then
      (some (Out.ret (false : Bool)))
    else
      (some (.nx r19.2))) : Option (Out Bool (List Int)))) r3.2 (rng 0 (2 : Int))).bind fun o31 =>
  outC o31 (fun r => some r) fun t32 =>
  (some (([([("the" : Str), ("tide" : Str), ("is" : Str), ("up" : Str)] : (List Str)), ([("tide" : Str), ("fire" : Str)] : (List Str)), ([("up" : Str), ("at" : Str), ("four" : Str)] : (List Str)), ([("fire" : Str)] : (List Str)), ([] : (List Str))] : (List (List Str))) : (List (List Str)))).bind fun v33 =>
  (some (([(⟨("fire" : Str), (3 : Int)⟩ : (T2 Str Int)), (⟨("four" : Str), (2 : Int)⟩ : (T2 Str Int)), (⟨("tide" : Str), (4 : Int)⟩ : (T2 Str Int)), (⟨("up" : Str), (1 : Int)⟩ : (T2 Str Int))] : (List (T2 Str Int))) : (List (T2 Str Int)))).bind fun v34 =>
  (m_best_brief v33 v34 (5 : Int)).bind fun r35 =>
  ((if (!(decide (r35 = (⟨(10 : Int), ([(1 : Int), (2 : Int)] : (List Int))⟩ : (T2 Int (List Int)))))) = true then some true else ((m_greedy_brief fuel v33 v34 (4 : Int)).bind fun r36 => ((if (!(decide (r36 = ([(1 : Int)] : (List Int))))) = true then some true else ((m_best_brief v33 v34 (2 : Int)).bind fun r37 => some (!(decide (r37 = (⟨(7 : Int), ([(1 : Int)] : (List Int))⟩ : (T2 Int (List Int))))))))).bind fun v38 => some v38))).bind fun v39 =>
  if v39 = true then
    (some (false : Bool))
  else
    ((m_needless_in v33 v34 ([(0 : Int), (1 : Int), (3 : Int)] : (List Int))).bind fun r41 =>
    ((if (!(decide (r41 = ([(1 : Int), (3 : Int)] : (List Int))))) = true then some true else ((m_first_sentences v33 (6 : Int)).bind fun r42 => ((if (!(decide (r42 = ([(0 : Int), (1 : Int)] : (List Int))))) = true then some true else ((m_words_in_brief v33 ([(0 : Int), (2 : Int)] : (List Int))).bind fun r43 => some (!(decide (r43 = (7 : Int))))))).bind fun v44 => some v44))).bind fun v45 =>
    if v45 = true then
      (some (false : Bool))
    else
      ((m_best_brief ([] : (List (List Str))) v34 (0 : Int)).bind fun r47 =>
      ((if (decide (r47 = (⟨(0 : Int), ([] : (List Int))⟩ : (T2 Int (List Int))))) = true then ((m_worth_of_brief v33 ([] : (List (T2 Str Int))) ([(0 : Int), (1 : Int)] : (List Int))).bind fun r48 => ((if (decide (r48 = (0 : Int))) = true then ((m_first_sentences ([([] : (List Str)), ([] : (List Str))] : (List (List Str))) (0 : Int)).bind fun r49 => some (decide (r49 = ([(0 : Int), (1 : Int)] : (List Int))))) else some false)).bind fun v50 => some v50) else some false)).bind fun v51 =>
      some (v51 : Bool)))
def C_law : Contract := fun T r0 T' => ∃ (fuel : Nat) (a0 : (List Int)) (r : Bool), m_law fuel a0 = some r ∧ T = [.bor (.lst (List.map Enc.enc (a0 : (List Int))))] ∧ r0 = .dat (en (r : Bool)) ∧ T' = [.un]
def g_law : Cxt where
  N := ["script", "draws", "scale", "turn", "text", "table", "sentences", "most", "by", "great", "told", "weight", "word"]
  sc := defScope (topS 21)
  tab := [("script", 0), ("draws", 1), ("scale", 2), ("turn", 3), ("text", 4), ("table", 5), ("sentences", 6), ("most", 7), ("by", 8), ("great", 9), ("told", 10)]
  loc := ["draws", "scale", "turn", "text", "table", "sentences", "most", "by", "great", "told"]
  fnc := fun _ => true
  blt := ["range", "tuple", "abs"]
  fns := [("_law_draws", 2, C__law_draws), ("_law_take", 2, C__law_take), ("_law_text", 2, C__law_text), ("_law_table", 2, C__law_table), ("best_brief", 3, C_best_brief), ("_law_same", 2, sameC 8), ("worth_of_brief", 3, C_worth_of_brief), ("first_sentences", 2, C_first_sentences), ("_law_is_best_right", 3, C__law_is_best_right), ("_law_is_told_right", 3, C__law_is_told_right), ("greedy_brief", 3, C_greedy_brief), ("needless_in", 3, C_needless_in), ("words_in_brief", 2, C_words_in_brief), ("_law_cell", 2, C__law_cell)]
  hid := []
  hfns := []
theorem w_law (fuel : Nat) (a0 : (List Int)) (r : Bool) (hm : m_law fuel a0 = some r) : DSs g_law (defBody (topS 21)) [.bor (.lst (List.map Enc.enc (a0 : (List Int)))), .un, .un, .un, .un, .un, .un, .un, .un, .un, .un, .un, .un] (.ret (.dat (en (r : Bool))) [.un, .un, .un, .un, .un, .un, .un, .un, .un, .un, .un, .un, .un]) := by
  unfold m_law at hm
  obtain ⟨r1, hr1, hm⟩ := bnd hm
  refine dss_cons (S1 := [.bor (.lst (List.map Enc.enc (a0 : (List Int)))), .own (.lst (List.map Enc.enc (r1 : (List Int)))), .un, .un, .un, .un, .un, .un, .un, .un, .un, .un, .un]) (ds_setO (i := 1) (S1 := [.bor (.lst (List.map Enc.enc (a0 : (List Int)))), .un, .un, .un, .un, .un, .un, .un, .un, .un, .un, .un, .un]) rfl rfl (df_call (o := (.lst (List.map Enc.enc (r1 : (List Int))))) (C := C__law_draws) (n := 2) rfl (da_slot (i := 0) rfl rfl rfl (da_dat (de_int) (da_nil))) (.bor rfl rfl (by decide) (.dat .nil)) ⟨_, _, r1, hr1, rfl, rfl, rfl⟩ .none)) ?_
  obtain ⟨r2, hr2, hm⟩ := bnd hm
  obtain ⟨r3, hr3, hm⟩ := bnd hm
  obtain ⟨v4, hv4, hm⟩ := bnd hm
  refine dss_cons (S1 := [.bor (.lst (List.map Enc.enc (a0 : (List Int)))), .own (.lst (List.map Enc.enc (r3.2 : (List Int)))), .dat (en (v4 : Int)), .un, .un, .un, .un, .un, .un, .un, .un, .un, .un]) (ds_set (i := 2) (S1 := [.bor (.lst (List.map Enc.enc (a0 : (List Int)))), .own (.lst (List.map Enc.enc (r3.2 : (List Int)))), .un, .un, .un, .un, .un, .un, .un, .un, .un, .un, .un]) rfl rfl (d := en (v4 : Int)) (de_ixLT (xs := (([(1 : Int), (1 : Int), ((1 : Int) + ((if r2.1 < 0 then -r2.1 else r2.1) % (10 ^ 20 : Int)))] : List Int) : (List Int))) (db_new (df_lst (dd_cons (de_int) (dd_cons (de_int) (dd_cons (de_add (de_int) (de_mod (de_abs rfl (de_call (S1 := [.bor (.lst (List.map Enc.enc (a0 : (List Int)))), .own (.lst (List.map Enc.enc (r1 : (List Int)))), .un, .un, .un, .un, .un, .un, .un, .un, .un, .un, .un]) (S2 := [.bor (.lst (List.map Enc.enc (a0 : (List Int)))), .own (.lst (List.map Enc.enc (r2.2 : (List Int)))), .un, .un, .un, .un, .un, .un, .un, .un, .un, .un, .un]) (d := (en (r2.1 : Int))) (C := C__law_cell) (n := 2) rfl (da_slot (i := 0) rfl rfl rfl (da_slot (i := 1) rfl rfl rfl (da_nil))) (.bor rfl rfl (by decide) (.io rfl (.inl rfl) rfl .nil)) ⟨_, _, r2, hr2, rfl, rfl, rfl⟩ (beh rfl rfl rfl))) (de_pow de_int de_int ⟨by decide, by decide, by decide⟩) (by decide +kernel))) (dd_nil)))))) (de_call (S1 := [.bor (.lst (List.map Enc.enc (a0 : (List Int)))), .own (.lst (List.map Enc.enc (r2.2 : (List Int)))), .un, .un, .un, .un, .un, .un, .un, .un, .un, .un, .un]) (S2 := [.bor (.lst (List.map Enc.enc (a0 : (List Int)))), .own (.lst (List.map Enc.enc (r3.2 : (List Int)))), .un, .un, .un, .un, .un, .un, .un, .un, .un, .un, .un]) (d := (en (r3.1 : Int))) (C := C__law_take) (n := 2) rfl (da_slot (i := 1) rfl rfl rfl (da_dat (de_int) (da_nil))) (.io rfl (.inl rfl) rfl (.dat .nil)) ⟨_, _, r3, hr3, rfl, rfl, rfl⟩ (beh rfl rfl rfl)) hv4)) ?_
  obtain ⟨o31, ho31, hm⟩ := bnd hm
  refine dss_for (t0 := (r3.2 : (List Int))) (f := Enc.enc) (fun (t5 : (List Int)) => [.bor (.lst (List.map Enc.enc (a0 : (List Int)))), .own (.lst (List.map Enc.enc (t5 : (List Int)))), .dat (en (v4 : Int)), .un, .un, .un, .un, .un, .un, .un, .un, .un, .un]) (fun (t5 : (List Int)) (x6 : Int) => [.bor (.lst (List.map Enc.enc (a0 : (List Int)))), .own (.lst (List.map Enc.enc (t5 : (List Int)))), .dat (en (v4 : Int)), .dat (en (x6 : Int)), .un, .un, .un, .un, .un, .un, .un, .un, .un]) (fun (r : Bool) => .dat (en (r : Bool))) (fun (r : Bool) => [.un, .un, .un, .un, .un, .un, .un, .un, .un, .un, .un, .un, .un]) (di_range1 rfl (de_int)) (show Wk [.bor (.lst (List.map Enc.enc (a0 : (List Int)))), .own (.lst (List.map Enc.enc (r3.2 : (List Int)))), .dat (en (v4 : Int)), .un, .un, .un, .un, .un, .un, .un, .un, .un, .un] _ from (.eq (.eq (.eq (.eq (.eq (.eq (.eq (.eq (.eq (.eq (.eq (.eq (.eq .nil)))))))))))))) (fun t5 x6 _ => dg_name (i := 3) rfl rfl) (fun t5 x6 out _ hm => ?_) ho31 (fun t32 ht => ?_) (fun r hr => ?_)
  · obtain ⟨v7, hv7, hm⟩ := bnd hm
    obtain ⟨r8, hr8, hm⟩ := bnd hm
    obtain ⟨r9, hr9, hm⟩ := bnd hm
    refine dss_cons (S1 := [.bor (.lst (List.map Enc.enc (a0 : (List Int)))), .own (.lst (List.map Enc.enc (r9.2 : (List Int)))), .dat (en (v4 : Int)), .dat (en (x6 : Int)), .un, .un, .dat (en (r9.1 : (List (List Str)))), .un, .un, .un, .un, .un, .un]) (ds_set (i := 6) (S1 := [.bor (.lst (List.map Enc.enc (a0 : (List Int)))), .own (.lst (List.map Enc.enc (r9.2 : (List Int)))), .dat (en (v4 : Int)), .dat (en (x6 : Int)), .un, .un, .un, .un, .un, .un, .un, .un, .un]) rfl rfl (d := en (r9.1 : (List (List Str)))) (de_call (S1 := [.bor (.lst (List.map Enc.enc (a0 : (List Int)))), .own (.lst (List.map Enc.enc (r8.2 : (List Int)))), .dat (en (v4 : Int)), .dat (en (x6 : Int)), .un, .un, .un, .un, .un, .un, .un, .un, .un]) (S2 := [.bor (.lst (List.map Enc.enc (a0 : (List Int)))), .own (.lst (List.map Enc.enc (r9.2 : (List Int)))), .dat (en (v4 : Int)), .dat (en (x6 : Int)), .un, .un, .un, .un, .un, .un, .un, .un, .un]) (d := (en (r9.1 : (List (List Str))))) (C := C__law_text) (n := 2) rfl (da_slot (i := 1) rfl rfl rfl (da_dat (de_call (S1 := [.bor (.lst (List.map Enc.enc (a0 : (List Int)))), .own (.lst (List.map Enc.enc (t5 : (List Int)))), .dat (en (v4 : Int)), .dat (en (x6 : Int)), .un, .un, .un, .un, .un, .un, .un, .un, .un]) (S2 := [.bor (.lst (List.map Enc.enc (a0 : (List Int)))), .own (.lst (List.map Enc.enc (r8.2 : (List Int)))), .dat (en (v4 : Int)), .dat (en (x6 : Int)), .un, .un, .un, .un, .un, .un, .un, .un, .un]) (d := (en (r8.1 : Int))) (C := C__law_take) (n := 2) rfl (da_slot (i := 1) rfl rfl rfl (da_dat (de_ixLT (xs := (([(9 : Int), (6 : Int)] : List Int) : (List Int))) (db_new (df_lst (dd_cons (de_int) (dd_cons (de_int) (dd_nil))))) (de_var rfl rfl) hv7) (da_nil))) (.io rfl (.inl rfl) rfl (.dat .nil)) ⟨_, _, r8, hr8, rfl, rfl, rfl⟩ (beh rfl rfl rfl)) (da_nil))) (.io rfl (.inl rfl) rfl (.dat .nil)) ⟨_, _, r9, hr9, rfl, rfl, rfl⟩ (beh rfl rfl rfl))) ?_
    obtain ⟨r10, hr10, hm⟩ := bnd hm
    refine dss_cons (S1 := [.bor (.lst (List.map Enc.enc (a0 : (List Int)))), .own (.lst (List.map Enc.enc (r10.2 : (List Int)))), .dat (en (v4 : Int)), .dat (en (x6 : Int)), .un, .dat (en (r10.1 : (List (T2 Str Int)))), .dat (en (r9.1 : (List (List Str)))), .un, .un, .un, .un, .un, .un]) (ds_set (i := 5) (S1 := [.bor (.lst (List.map Enc.enc (a0 : (List Int)))), .own (.lst (List.map Enc.enc (r10.2 : (List Int)))), .dat (en (v4 : Int)), .dat (en (x6 : Int)), .un, .un, .dat (en (r9.1 : (List (List Str)))), .un, .un, .un, .un, .un, .un]) rfl rfl (d := en (r10.1 : (List (T2 Str Int)))) (de_call (S1 := [.bor (.lst (List.map Enc.enc (a0 : (List Int)))), .own (.lst (List.map Enc.enc (r9.2 : (List Int)))), .dat (en (v4 : Int)), .dat (en (x6 : Int)), .un, .un, .dat (en (r9.1 : (List (List Str)))), .un, .un, .un, .un, .un, .un]) (S2 := [.bor (.lst (List.map Enc.enc (a0 : (List Int)))), .own (.lst (List.map Enc.enc (r10.2 : (List Int)))), .dat (en (v4 : Int)), .dat (en (x6 : Int)), .un, .un, .dat (en (r9.1 : (List (List Str)))), .un, .un, .un, .un, .un, .un]) (d := (en (r10.1 : (List (T2 Str Int))))) (C := C__law_table) (n := 2) rfl (da_slot (i := 1) rfl rfl rfl (da_dat (de_var rfl rfl) (da_nil))) (.io rfl (.inl rfl) rfl (.dat .nil)) ⟨_, _, r10, hr10, rfl, rfl, rfl⟩ (beh rfl rfl rfl))) ?_
    obtain ⟨r11, hr11, hm⟩ := bnd hm
    obtain ⟨r12, hr12, hm⟩ := bnd hm
    obtain ⟨r13, hr13, hm⟩ := bnd hm
    obtain ⟨v14, hv14, hm⟩ := bnd hm
    refine dss_cons (S1 := [.bor (.lst (List.map Enc.enc (a0 : (List Int)))), .own (.lst (List.map Enc.enc (r13.2 : (List Int)))), .dat (en (v4 : Int)), .dat (en (x6 : Int)), .un, .dat (en (r10.1 : (List (T2 Str Int)))), .dat (en (r9.1 : (List (List Str)))), .dat (en (v14 : Int)), .un, .un, .un, .un, .un]) (ds_set (i := 7) (S1 := [.bor (.lst (List.map Enc.enc (a0 : (List Int)))), .own (.lst (List.map Enc.enc (r13.2 : (List Int)))), .dat (en (v4 : Int)), .dat (en (x6 : Int)), .un, .dat (en (r10.1 : (List (T2 Str Int)))), .dat (en (r9.1 : (List (List Str)))), .un, .un, .un, .un, .un, .un]) rfl rfl (d := en (v14 : Int)) (de_ixLT (xs := (([r11.1, r12.1] : List Int) : (List Int))) (db_new (df_lst (dd_cons (de_call (S1 := [.bor (.lst (List.map Enc.enc (a0 : (List Int)))), .own (.lst (List.map Enc.enc (r10.2 : (List Int)))), .dat (en (v4 : Int)), .dat (en (x6 : Int)), .un, .dat (en (r10.1 : (List (T2 Str Int)))), .dat (en (r9.1 : (List (List Str)))), .un, .un, .un, .un, .un, .un]) (S2 := [.bor (.lst (List.map Enc.enc (a0 : (List Int)))), .own (.lst (List.map Enc.enc (r11.2 : (List Int)))), .dat (en (v4 : Int)), .dat (en (x6 : Int)), .un, .dat (en (r10.1 : (List (T2 Str Int)))), .dat (en (r9.1 : (List (List Str)))), .un, .un, .un, .un, .un, .un]) (d := (en (r11.1 : Int))) (C := C__law_take) (n := 2) rfl (da_slot (i := 1) rfl rfl rfl (da_dat (de_int) (da_nil))) (.io rfl (.inl rfl) rfl (.dat .nil)) ⟨_, _, r11, hr11, rfl, rfl, rfl⟩ (beh rfl rfl rfl)) (dd_cons (de_call (S1 := [.bor (.lst (List.map Enc.enc (a0 : (List Int)))), .own (.lst (List.map Enc.enc (r11.2 : (List Int)))), .dat (en (v4 : Int)), .dat (en (x6 : Int)), .un, .dat (en (r10.1 : (List (T2 Str Int)))), .dat (en (r9.1 : (List (List Str)))), .un, .un, .un, .un, .un, .un]) (S2 := [.bor (.lst (List.map Enc.enc (a0 : (List Int)))), .own (.lst (List.map Enc.enc (r12.2 : (List Int)))), .dat (en (v4 : Int)), .dat (en (x6 : Int)), .un, .dat (en (r10.1 : (List (T2 Str Int)))), .dat (en (r9.1 : (List (List Str)))), .un, .un, .un, .un, .un, .un]) (d := (en (r12.1 : Int))) (C := C__law_take) (n := 2) rfl (da_slot (i := 1) rfl rfl rfl (da_dat (de_int) (da_nil))) (.io rfl (.inl rfl) rfl (.dat .nil)) ⟨_, _, r12, hr12, rfl, rfl, rfl⟩ (beh rfl rfl rfl)) (dd_nil))))) (de_call (S1 := [.bor (.lst (List.map Enc.enc (a0 : (List Int)))), .own (.lst (List.map Enc.enc (r12.2 : (List Int)))), .dat (en (v4 : Int)), .dat (en (x6 : Int)), .un, .dat (en (r10.1 : (List (T2 Str Int)))), .dat (en (r9.1 : (List (List Str)))), .un, .un, .un, .un, .un, .un]) (S2 := [.bor (.lst (List.map Enc.enc (a0 : (List Int)))), .own (.lst (List.map Enc.enc (r13.2 : (List Int)))), .dat (en (v4 : Int)), .dat (en (x6 : Int)), .un, .dat (en (r10.1 : (List (T2 Str Int)))), .dat (en (r9.1 : (List (List Str)))), .un, .un, .un, .un, .un, .un]) (d := (en (r13.1 : Int))) (C := C__law_take) (n := 2) rfl (da_slot (i := 1) rfl rfl rfl (da_dat (de_int) (da_nil))) (.io rfl (.inl rfl) rfl (.dat .nil)) ⟨_, _, r13, hr13, rfl, rfl, rfl⟩ (beh rfl rfl rfl)) hv14)) ?_
    obtain ⟨r15, hr15, hm⟩ := bnd hm
    obtain ⟨v17, hv17, hm⟩ := bnd hm
    by_cases k18 : v17.1 = true
    · have hm := ite_t hm k18
      refine dss_end (ds_if (dt_eq (dt_w (dw_or (k2 := v17.1) (S2 := [.bor (.lst (List.map Enc.enc (a0 : (List Int)))), .own (.lst (List.map Enc.enc (v17.2 : (List Int)))), .dat (en (v4 : Int)), .dat (en (x6 : Int)), .un, .dat (en (r10.1 : (List (T2 Str Int)))), .dat (en (r9.1 : (List (List Str)))), .dat (en (v14 : Int)), .un, .un, .un, .un, .un]) (dt_not (dt_val (de_call (d := (en (r15 : Bool))) (C := C__law_is_best_right) (n := 3) rfl (da_dat (de_var rfl rfl) (da_dat (de_var rfl rfl) (da_dat (de_var rfl rfl) (da_nil)))) (.dat (.dat (.dat .nil))) ⟨fuel, _, _, _, r15, hr15, rfl, rfl, rfl⟩ .none))) (fun z => by have hm := ite_f hv17 z; obtain ⟨r16, hr16, hm⟩ := bnd hm; obtain rfl := inj_r hm; exact (dw_or1 (dt_not (dt_val (de_call (S1 := [.bor (.lst (List.map Enc.enc (a0 : (List Int)))), .own (.lst (List.map Enc.enc (r13.2 : (List Int)))), .dat (en (v4 : Int)), .dat (en (x6 : Int)), .un, .dat (en (r10.1 : (List (T2 Str Int)))), .dat (en (r9.1 : (List (List Str)))), .dat (en (v14 : Int)), .un, .un, .un, .un, .un]) (S2 := [.bor (.lst (List.map Enc.enc (a0 : (List Int)))), .own (.lst (List.map Enc.enc (r16.2 : (List Int)))), .dat (en (v4 : Int)), .dat (en (x6 : Int)), .un, .dat (en (r10.1 : (List (T2 Str Int)))), .dat (en (r9.1 : (List (List Str)))), .dat (en (v14 : Int)), .un, .un, .un, .un, .un]) (d := (en (r16.1 : Bool))) (C := C__law_is_told_right) (n := 3) rfl (da_slot (i := 1) rfl rfl rfl (da_dat (de_var rfl rfl) (da_dat (de_var rfl rfl) (da_nil)))) (.io rfl (.inl rfl) rfl (.dat (.dat .nil))) ⟨_, _, _, r16, hr16, rfl, rfl, rfl⟩ (beh rfl rfl rfl)))))) (fun z => by have hm := ite_t hv17 z; obtain rfl := inj_r hm; exact ⟨rfl, rfl⟩))) k18) (fun _ => ?_) (fun z => by cases z)) (lv_of (by repeat (first | exact lv_ret | exact lv_bk | refine lv_bind fun _ => ?_ | refine lv_ite ?_ ?_ | refine lv_outC (fun _ => ?_) (fun _ => ?_))) hm)
      obtain rfl := inj_r hm
      exact dss_end (ds_le (S := _) (ds_ret (de_bl)) (.ret (.un rfl (.un rfl (.un rfl (.un rfl (.eq (.un rfl (.un rfl (.un rfl (.eq (.eq (.eq (.eq (.eq .nil)))))))))))))))
    have hm := ite_f hm (ne_t k18)
    refine dss_cons (ds_if (dt_eq (dt_w (dw_or (k2 := v17.1) (S2 := [.bor (.lst (List.map Enc.enc (a0 : (List Int)))), .own (.lst (List.map Enc.enc (v17.2 : (List Int)))), .dat (en (v4 : Int)), .dat (en (x6 : Int)), .un, .dat (en (r10.1 : (List (T2 Str Int)))), .dat (en (r9.1 : (List (List Str)))), .dat (en (v14 : Int)), .un, .un, .un, .un, .un]) (dt_not (dt_val (de_call (d := (en (r15 : Bool))) (C := C__law_is_best_right) (n := 3) rfl (da_dat (de_var rfl rfl) (da_dat (de_var rfl rfl) (da_dat (de_var rfl rfl) (da_nil)))) (.dat (.dat (.dat .nil))) ⟨fuel, _, _, _, r15, hr15, rfl, rfl, rfl⟩ .none))) (fun z => by have hm := ite_f hv17 z; obtain ⟨r16, hr16, hm⟩ := bnd hm; obtain rfl := inj_r hm; exact (dw_or1 (dt_not (dt_val (de_call (S1 := [.bor (.lst (List.map Enc.enc (a0 : (List Int)))), .own (.lst (List.map Enc.enc (r13.2 : (List Int)))), .dat (en (v4 : Int)), .dat (en (x6 : Int)), .un, .dat (en (r10.1 : (List (T2 Str Int)))), .dat (en (r9.1 : (List (List Str)))), .dat (en (v14 : Int)), .un, .un, .un, .un, .un]) (S2 := [.bor (.lst (List.map Enc.enc (a0 : (List Int)))), .own (.lst (List.map Enc.enc (r16.2 : (List Int)))), .dat (en (v4 : Int)), .dat (en (x6 : Int)), .un, .dat (en (r10.1 : (List (T2 Str Int)))), .dat (en (r9.1 : (List (List Str)))), .dat (en (v14 : Int)), .un, .un, .un, .un, .un]) (d := (en (r16.1 : Bool))) (C := C__law_is_told_right) (n := 3) rfl (da_slot (i := 1) rfl rfl rfl (da_dat (de_var rfl rfl) (da_dat (de_var rfl rfl) (da_nil)))) (.io rfl (.inl rfl) rfl (.dat (.dat .nil))) ⟨_, _, _, r16, hr16, rfl, rfl, rfl⟩ (beh rfl rfl rfl)))))) (fun z => by have hm := ite_t hv17 z; obtain rfl := inj_r hm; exact ⟨rfl, rfl⟩))) (ne_t k18)) (fun z => by cases z) (fun _ => dss_nil .refl)) ?_
    obtain ⟨r19, hr19, hm⟩ := bnd hm
    obtain ⟨v20, hv20, hm⟩ := bnd hm
    refine dss_cons (S1 := [.bor (.lst (List.map Enc.enc (a0 : (List Int)))), .own (.lst (List.map Enc.enc (r19.2 : (List Int)))), .dat (en (v4 : Int)), .dat (en (x6 : Int)), .un, .dat (en (r10.1 : (List (T2 Str Int)))), .dat (en (r9.1 : (List (List Str)))), .dat (en (v14 : Int)), .dat (en (v20 : Int)), .un, .un, .un, .un]) (ds_set (i := 8) (S1 := [.bor (.lst (List.map Enc.enc (a0 : (List Int)))), .own (.lst (List.map Enc.enc (r19.2 : (List Int)))), .dat (en (v4 : Int)), .dat (en (x6 : Int)), .un, .dat (en (r10.1 : (List (T2 Str Int)))), .dat (en (r9.1 : (List (List Str)))), .dat (en (v14 : Int)), .un, .un, .un, .un, .un]) rfl rfl (de_eq (d := en (((2 : Int) + r19.1) : Int)) (d1 := en (v20 : Int)) (de_add (de_int) (de_call (S1 := [.bor (.lst (List.map Enc.enc (a0 : (List Int)))), .own (.lst (List.map Enc.enc (v17.2 : (List Int)))), .dat (en (v4 : Int)), .dat (en (x6 : Int)), .un, .dat (en (r10.1 : (List (T2 Str Int)))), .dat (en (r9.1 : (List (List Str)))), .dat (en (v14 : Int)), .un, .un, .un, .un, .un]) (S2 := [.bor (.lst (List.map Enc.enc (a0 : (List Int)))), .own (.lst (List.map Enc.enc (r19.2 : (List Int)))), .dat (en (v4 : Int)), .dat (en (x6 : Int)), .un, .dat (en (r10.1 : (List (T2 Str Int)))), .dat (en (r9.1 : (List (List Str)))), .dat (en (v14 : Int)), .un, .un, .un, .un, .un]) (d := (en (r19.1 : Int))) (C := C__law_take) (n := 2) rfl (da_slot (i := 1) rfl rfl rfl (da_dat (de_int) (da_nil))) (.io rfl (.inl rfl) rfl (.dat .nil)) ⟨_, _, r19, hr19, rfl, rfl, rfl⟩ (beh rfl rfl rfl))) (by rw [inj_s hv20]))) ?_
    obtain ⟨l23, hl23, hm⟩ := bnd hm
    refine dss_cons (S1 := [.bor (.lst (List.map Enc.enc (a0 : (List Int)))), .own (.lst (List.map Enc.enc (r19.2 : (List Int)))), .dat (en (v4 : Int)), .dat (en (x6 : Int)), .un, .dat (en (r10.1 : (List (T2 Str Int)))), .dat (en (r9.1 : (List (List Str)))), .dat (en (v14 : Int)), .dat (en (v20 : Int)), .dat (en (l23 : (List (T2 Str Int)))), .un, .un, .un]) (ds_set (i := 9) (S1 := [.bor (.lst (List.map Enc.enc (a0 : (List Int)))), .own (.lst (List.map Enc.enc (r19.2 : (List Int)))), .dat (en (v4 : Int)), .dat (en (x6 : Int)), .un, .dat (en (r10.1 : (List (T2 Str Int)))), .dat (en (r9.1 : (List (List Str)))), .dat (en (v14 : Int)), .dat (en (v20 : Int)), .un, .un, .un, .un]) rfl rfl (d := en (l23 : (List (T2 Str Int)))) (de_tupL (ds := List.map Enc.enc (l23 : (List (T2 Str Int)))) rfl (db_new (df_lc (lc_okO (own := [("word", 12), ("weight", 11)]) (tab := [("by", 8), ("weight", 11), ("word", 12)]) (loc := ["word", "weight"]) (f := Enc.enc) (h := Enc.enc) (xs := r10.1) (tgt := fun x21 => [.bor (.lst (List.map Enc.enc (a0 : (List Int)))), .own (.lst (List.map Enc.enc (r19.2 : (List Int)))), .dat (en (v4 : Int)), .dat (en (x6 : Int)), .un, .dat (en (r10.1 : (List (T2 Str Int)))), .dat (en (r9.1 : (List (List Str)))), .dat (en (v14 : Int)), .dat (en (v20 : Int)), .un, .un, .dat (en (x21.b : Int)), .dat (en (x21.a : Str))]) (by decide +kernel) (by decide +kernel) (dz_tup (de_var rfl rfl)) rfl (by decide) (fun x21 _ => dg_tup (ds := [en x21.a, en x21.b]) (dgs_cons (dg_name (i := 12) rfl rfl) (dgs_cons (dg_name (i := 11) rfl rfl) (dgs_nil)))) (fun x21 o _ hm => (by have hm := hm; obtain ⟨u22, hu22, hm⟩ := bnd hm; obtain rfl := inj_r hm; exact ⟨_, _, dts_nil, de_tup (dd_cons (de_var rfl rfl) (dd_cons (de_mul (de_var rfl rfl) (de_var rfl rfl) (chkM_ok hu22)) (dd_nil))), rfl⟩)) hl23))))) ?_
    obtain ⟨r24, hr24, hm⟩ := bnd hm
    refine dss_cons (S1 := [.bor (.lst (List.map Enc.enc (a0 : (List Int)))), .own (.lst (List.map Enc.enc (r19.2 : (List Int)))), .dat (en (v4 : Int)), .dat (en (x6 : Int)), .un, .dat (en (r10.1 : (List (T2 Str Int)))), .dat (en (r9.1 : (List (List Str)))), .dat (en (v14 : Int)), .dat (en (v20 : Int)), .dat (en (l23 : (List (T2 Str Int)))), .dat (en (r24 : (T2 Int (List Int)))), .un, .un]) (ds_set (i := 10) (S1 := [.bor (.lst (List.map Enc.enc (a0 : (List Int)))), .own (.lst (List.map Enc.enc (r19.2 : (List Int)))), .dat (en (v4 : Int)), .dat (en (x6 : Int)), .un, .dat (en (r10.1 : (List (T2 Str Int)))), .dat (en (r9.1 : (List (List Str)))), .dat (en (v14 : Int)), .dat (en (v20 : Int)), .dat (en (l23 : (List (T2 Str Int)))), .un, .un, .un]) rfl rfl (d := en (r24 : (T2 Int (List Int)))) (de_call (d := (en (r24 : (T2 Int (List Int))))) (C := C_best_brief) (n := 3) rfl (da_dat (de_var rfl rfl) (da_dat (de_var rfl rfl) (da_dat (de_var rfl rfl) (da_nil)))) (.dat (.dat (.dat .nil))) ⟨_, _, _, r24, hr24, rfl, rfl, rfl⟩ .none)) ?_
    obtain ⟨r25, hr25, hm⟩ := bnd hm
    obtain ⟨u26, hu26, hm⟩ := bnd hm
    obtain ⟨v29, hv29, hm⟩ := bnd hm
    by_cases k30 : v29 = true
    · have hm := ite_t hm k30
      refine dss_end (ds_if (dt_eq (dt_w (dw_or (k2 := v29) (S2 := [.bor (.lst (List.map Enc.enc (a0 : (List Int)))), .own (.lst (List.map Enc.enc (r19.2 : (List Int)))), .dat (en (v4 : Int)), .dat (en (x6 : Int)), .un, .dat (en (r10.1 : (List (T2 Str Int)))), .dat (en (r9.1 : (List (List Str)))), .dat (en (v14 : Int)), .dat (en (v20 : Int)), .dat (en (l23 : (List (T2 Str Int)))), .dat (en (r24 : (T2 Int (List Int)))), .un, .un]) (dt_not (dt_val (de_sameT (x := (r25 : (T2 Int (List Int)))) (y := (⟨(v20 * r24.a), r24.b⟩ : (T2 Int (List Int)))) rfl (da_dat (de_call (d := (en (r25 : (T2 Int (List Int))))) (C := C_best_brief) (n := 3) rfl (da_dat (de_var rfl rfl) (da_dat (de_var rfl rfl) (da_dat (de_var rfl rfl) (da_nil)))) (.dat (.dat (.dat .nil))) ⟨_, _, _, r25, hr25, rfl, rfl, rfl⟩ .none) (da_dat (de_tup (dd_cons (de_mul (de_var rfl rfl) (de_ixT (ds := [en (r24).a, en (r24).b]) (d := en (r24).a) (de_var rfl rfl) (de_int) rfl) (chkM_ok hu26)) (dd_cons (de_ixT (ds := [en (r24).a, en (r24).b]) (d := en (r24).b) (de_var rfl rfl) (de_int) rfl) (dd_nil)))) da_nil))))) (fun z => by have hm := ite_f hv29 z; obtain ⟨r27, hr27, hm⟩ := bnd hm; obtain ⟨r28, hr28, hm⟩ := bnd hm; obtain rfl := inj_r hm; exact (dw_or1 (dt_not (dt_val (de_sameT (x := (r27 : (List Int))) (y := r28) rfl (da_dat (de_call (d := (en (r27 : (List Int)))) (C := C_greedy_brief) (n := 3) rfl (da_dat (de_var rfl rfl) (da_dat (de_var rfl rfl) (da_dat (de_var rfl rfl) (da_nil)))) (.dat (.dat (.dat .nil))) ⟨fuel, _, _, _, r27, hr27, rfl, rfl, rfl⟩ .none) (da_dat (de_call (d := (en (r28 : (List Int)))) (C := C_greedy_brief) (n := 3) rfl (da_dat (de_var rfl rfl) (da_dat (de_var rfl rfl) (da_dat (de_var rfl rfl) (da_nil)))) (.dat (.dat (.dat .nil))) ⟨fuel, _, _, _, r28, hr28, rfl, rfl, rfl⟩ .none) da_nil))))))) (fun z => by have hm := ite_t hv29 z; obtain rfl := inj_r hm; exact ⟨rfl, rfl⟩))) k30) (fun _ => ?_) (fun z => by cases z)) (lv_of (by repeat (first | exact lv_ret | exact lv_bk | refine lv_bind fun _ => ?_ | refine lv_ite ?_ ?_ | refine lv_outC (fun _ => ?_) (fun _ => ?_))) hm)
      obtain rfl := inj_r hm
      exact dss_end (ds_le (S := _) (ds_ret (de_bl)) (.ret (.un rfl (.un rfl (.un rfl (.un rfl (.eq (.un rfl (.un rfl (.un rfl (.un rfl (.un rfl (.un rfl (.eq (.eq .nil)))))))))))))))
    have hm := ite_f hm (ne_t k30)
    refine dss_cons (ds_if (dt_eq (dt_w (dw_or (k2 := v29) (S2 := [.bor (.lst (List.map Enc.enc (a0 : (List Int)))), .own (.lst (List.map Enc.enc (r19.2 : (List Int)))), .dat (en (v4 : Int)), .dat (en (x6 : Int)), .un, .dat (en (r10.1 : (List (T2 Str Int)))), .dat (en (r9.1 : (List (List Str)))), .dat (en (v14 : Int)), .dat (en (v20 : Int)), .dat (en (l23 : (List (T2 Str Int)))), .dat (en (r24 : (T2 Int (List Int)))), .un, .un]) (dt_not (dt_val (de_sameT (x := (r25 : (T2 Int (List Int)))) (y := (⟨(v20 * r24.a), r24.b⟩ : (T2 Int (List Int)))) rfl (da_dat (de_call (d := (en (r25 : (T2 Int (List Int))))) (C := C_best_brief) (n := 3) rfl (da_dat (de_var rfl rfl) (da_dat (de_var rfl rfl) (da_dat (de_var rfl rfl) (da_nil)))) (.dat (.dat (.dat .nil))) ⟨_, _, _, r25, hr25, rfl, rfl, rfl⟩ .none) (da_dat (de_tup (dd_cons (de_mul (de_var rfl rfl) (de_ixT (ds := [en (r24).a, en (r24).b]) (d := en (r24).a) (de_var rfl rfl) (de_int) rfl) (chkM_ok hu26)) (dd_cons (de_ixT (ds := [en (r24).a, en (r24).b]) (d := en (r24).b) (de_var rfl rfl) (de_int) rfl) (dd_nil)))) da_nil))))) (fun z => by have hm := ite_f hv29 z; obtain ⟨r27, hr27, hm⟩ := bnd hm; obtain ⟨r28, hr28, hm⟩ := bnd hm; obtain rfl := inj_r hm; exact (dw_or1 (dt_not (dt_val (de_sameT (x := (r27 : (List Int))) (y := r28) rfl (da_dat (de_call (d := (en (r27 : (List Int)))) (C := C_greedy_brief) (n := 3) rfl (da_dat (de_var rfl rfl) (da_dat (de_var rfl rfl) (da_dat (de_var rfl rfl) (da_nil)))) (.dat (.dat (.dat .nil))) ⟨fuel, _, _, _, r27, hr27, rfl, rfl, rfl⟩ .none) (da_dat (de_call (d := (en (r28 : (List Int)))) (C := C_greedy_brief) (n := 3) rfl (da_dat (de_var rfl rfl) (da_dat (de_var rfl rfl) (da_dat (de_var rfl rfl) (da_nil)))) (.dat (.dat (.dat .nil))) ⟨fuel, _, _, _, r28, hr28, rfl, rfl, rfl⟩ .none) da_nil))))))) (fun z => by have hm := ite_t hv29 z; obtain rfl := inj_r hm; exact ⟨rfl, rfl⟩))) (ne_t k30)) (fun z => by cases z) (fun _ => dss_nil .refl)) ?_
    obtain rfl := inj_r hm
    exact dss_nil (.eq (.eq (.eq (.un rfl (.eq (.un rfl (.un rfl (.un rfl (.un rfl (.un rfl (.un rfl (.eq (.eq .nil)))))))))))))
  rotate_left
  · subst hr
    have hm := outC_ret hm
    have hm := inj_r hm
    subst hm
    rfl
  subst ht
  have hm := outC_nx hm
  obtain ⟨v33, hv33, hm⟩ := bnd hm
  refine dss_cons (S1 := [.bor (.lst (List.map Enc.enc (a0 : (List Int)))), .own (.lst (List.map Enc.enc (t32 : (List Int)))), .dat (en (v4 : Int)), .un, .dat (en (v33 : (List (List Str)))), .un, .un, .un, .un, .un, .un, .un, .un]) (ds_set (i := 4) (S1 := [.bor (.lst (List.map Enc.enc (a0 : (List Int)))), .own (.lst (List.map Enc.enc (t32 : (List Int)))), .dat (en (v4 : Int)), .un, .un, .un, .un, .un, .un, .un, .un, .un, .un]) rfl rfl (de_eq (d := en (([([("the" : Str), ("tide" : Str), ("is" : Str), ("up" : Str)] : (List Str)), ([("tide" : Str), ("fire" : Str)] : (List Str)), ([("up" : Str), ("at" : Str), ("four" : Str)] : (List Str)), ([("fire" : Str)] : (List Str)), ([] : (List Str))] : (List (List Str))) : (List (List Str)))) (d1 := en (v33 : (List (List Str)))) (de_tup (dd_cons (de_tup (dd_cons (de_str) (dd_cons (de_str) (dd_cons (de_str) (dd_cons (de_str) (dd_nil)))))) (dd_cons (de_tup (dd_cons (de_str) (dd_cons (de_str) (dd_nil)))) (dd_cons (de_tup (dd_cons (de_str) (dd_cons (de_str) (dd_cons (de_str) (dd_nil))))) (dd_cons (de_tup (dd_cons (de_str) (dd_nil))) (dd_cons (de_tup (dd_nil)) (dd_nil))))))) (by rw [inj_s hv33]))) ?_
  obtain ⟨v34, hv34, hm⟩ := bnd hm
  refine dss_cons (S1 := [.bor (.lst (List.map Enc.enc (a0 : (List Int)))), .own (.lst (List.map Enc.enc (t32 : (List Int)))), .dat (en (v4 : Int)), .un, .dat (en (v33 : (List (List Str)))), .dat (en (v34 : (List (T2 Str Int)))), .un, .un, .un, .un, .un, .un, .un]) (ds_set (i := 5) (S1 := [.bor (.lst (List.map Enc.enc (a0 : (List Int)))), .own (.lst (List.map Enc.enc (t32 : (List Int)))), .dat (en (v4 : Int)), .un, .dat (en (v33 : (List (List Str)))), .un, .un, .un, .un, .un, .un, .un, .un]) rfl rfl (de_eq (d := en (([(⟨("fire" : Str), (3 : Int)⟩ : (T2 Str Int)), (⟨("four" : Str), (2 : Int)⟩ : (T2 Str Int)), (⟨("tide" : Str), (4 : Int)⟩ : (T2 Str Int)), (⟨("up" : Str), (1 : Int)⟩ : (T2 Str Int))] : (List (T2 Str Int))) : (List (T2 Str Int)))) (d1 := en (v34 : (List (T2 Str Int)))) (de_tup (dd_cons (de_tup (dd_cons (de_str) (dd_cons (de_int) (dd_nil)))) (dd_cons (de_tup (dd_cons (de_str) (dd_cons (de_int) (dd_nil)))) (dd_cons (de_tup (dd_cons (de_str) (dd_cons (de_int) (dd_nil)))) (dd_cons (de_tup (dd_cons (de_str) (dd_cons (de_int) (dd_nil)))) (dd_nil)))))) (by rw [inj_s hv34]))) ?_
  obtain ⟨r35, hr35, hm⟩ := bnd hm
  obtain ⟨v39, hv39, hm⟩ := bnd hm
  by_cases k40 : v39 = true
  · have hm := ite_t hm k40
    refine dss_end (ds_if (dt_eq (dt_w (dw_or (k2 := v39) (S2 := [.bor (.lst (List.map Enc.enc (a0 : (List Int)))), .own (.lst (List.map Enc.enc (t32 : (List Int)))), .dat (en (v4 : Int)), .un, .dat (en (v33 : (List (List Str)))), .dat (en (v34 : (List (T2 Str Int)))), .un, .un, .un, .un, .un, .un, .un]) (dt_not (dt_val (de_sameT (x := (r35 : (T2 Int (List Int)))) (y := (⟨(10 : Int), ([(1 : Int), (2 : Int)] : (List Int))⟩ : (T2 Int (List Int)))) rfl (da_dat (de_call (d := (en (r35 : (T2 Int (List Int))))) (C := C_best_brief) (n := 3) rfl (da_dat (de_var rfl rfl) (da_dat (de_var rfl rfl) (da_dat (de_int) (da_nil)))) (.dat (.dat (.dat .nil))) ⟨_, _, _, r35, hr35, rfl, rfl, rfl⟩ .none) (da_dat (de_tup (dd_cons (de_int) (dd_cons (de_tup (dd_cons (de_int) (dd_cons (de_int) (dd_nil)))) (dd_nil)))) da_nil))))) (fun z => by have hm := ite_f hv39 z; obtain ⟨r36, hr36, hm⟩ := bnd hm; obtain ⟨v38, hv38, hm⟩ := bnd hm; obtain rfl := inj_r hm; exact (dw_or (k2 := v38) (S2 := [.bor (.lst (List.map Enc.enc (a0 : (List Int)))), .own (.lst (List.map Enc.enc (t32 : (List Int)))), .dat (en (v4 : Int)), .un, .dat (en (v33 : (List (List Str)))), .dat (en (v34 : (List (T2 Str Int)))), .un, .un, .un, .un, .un, .un, .un]) (dt_not (dt_val (de_sameT (x := (r36 : (List Int))) (y := ([(1 : Int)] : (List Int))) rfl (da_dat (de_call (d := (en (r36 : (List Int)))) (C := C_greedy_brief) (n := 3) rfl (da_dat (de_var rfl rfl) (da_dat (de_var rfl rfl) (da_dat (de_int) (da_nil)))) (.dat (.dat (.dat .nil))) ⟨fuel, _, _, _, r36, hr36, rfl, rfl, rfl⟩ .none) (da_dat (de_tup (dd_cons (de_int) (dd_nil))) da_nil))))) (fun z => by have hm := ite_f hv38 z; obtain ⟨r37, hr37, hm⟩ := bnd hm; obtain rfl := inj_r hm; exact (dw_or1 (dt_not (dt_val (de_sameT (x := (r37 : (T2 Int (List Int)))) (y := (⟨(7 : Int), ([(1 : Int)] : (List Int))⟩ : (T2 Int (List Int)))) rfl (da_dat (de_call (d := (en (r37 : (T2 Int (List Int))))) (C := C_best_brief) (n := 3) rfl (da_dat (de_var rfl rfl) (da_dat (de_var rfl rfl) (da_dat (de_int) (da_nil)))) (.dat (.dat (.dat .nil))) ⟨_, _, _, r37, hr37, rfl, rfl, rfl⟩ .none) (da_dat (de_tup (dd_cons (de_int) (dd_cons (de_tup (dd_cons (de_int) (dd_nil))) (dd_nil)))) da_nil))))))) (fun z => by have hm := ite_t hv38 z; obtain rfl := inj_r hm; exact ⟨rfl, rfl⟩))) (fun z => by have hm := ite_t hv39 z; obtain rfl := inj_r hm; exact ⟨rfl, rfl⟩))) k40) (fun _ => ?_) (fun z => by cases z)) rfl
    obtain rfl := inj_r hm
    exact dss_end (ds_le (S := _) (ds_ret (de_bl)) (.ret (.un rfl (.un rfl (.un rfl (.eq (.un rfl (.un rfl (.eq (.eq (.eq (.eq (.eq (.eq (.eq .nil)))))))))))))))
  have hm := ite_f hm (ne_t k40)
  refine dss_cons (ds_if (dt_eq (dt_w (dw_or (k2 := v39) (S2 := [.bor (.lst (List.map Enc.enc (a0 : (List Int)))), .own (.lst (List.map Enc.enc (t32 : (List Int)))), .dat (en (v4 : Int)), .un, .dat (en (v33 : (List (List Str)))), .dat (en (v34 : (List (T2 Str Int)))), .un, .un, .un, .un, .un, .un, .un]) (dt_not (dt_val (de_sameT (x := (r35 : (T2 Int (List Int)))) (y := (⟨(10 : Int), ([(1 : Int), (2 : Int)] : (List Int))⟩ : (T2 Int (List Int)))) rfl (da_dat (de_call (d := (en (r35 : (T2 Int (List Int))))) (C := C_best_brief) (n := 3) rfl (da_dat (de_var rfl rfl) (da_dat (de_var rfl rfl) (da_dat (de_int) (da_nil)))) (.dat (.dat (.dat .nil))) ⟨_, _, _, r35, hr35, rfl, rfl, rfl⟩ .none) (da_dat (de_tup (dd_cons (de_int) (dd_cons (de_tup (dd_cons (de_int) (dd_cons (de_int) (dd_nil)))) (dd_nil)))) da_nil))))) (fun z => by have hm := ite_f hv39 z; obtain ⟨r36, hr36, hm⟩ := bnd hm; obtain ⟨v38, hv38, hm⟩ := bnd hm; obtain rfl := inj_r hm; exact (dw_or (k2 := v38) (S2 := [.bor (.lst (List.map Enc.enc (a0 : (List Int)))), .own (.lst (List.map Enc.enc (t32 : (List Int)))), .dat (en (v4 : Int)), .un, .dat (en (v33 : (List (List Str)))), .dat (en (v34 : (List (T2 Str Int)))), .un, .un, .un, .un, .un, .un, .un]) (dt_not (dt_val (de_sameT (x := (r36 : (List Int))) (y := ([(1 : Int)] : (List Int))) rfl (da_dat (de_call (d := (en (r36 : (List Int)))) (C := C_greedy_brief) (n := 3) rfl (da_dat (de_var rfl rfl) (da_dat (de_var rfl rfl) (da_dat (de_int) (da_nil)))) (.dat (.dat (.dat .nil))) ⟨fuel, _, _, _, r36, hr36, rfl, rfl, rfl⟩ .none) (da_dat (de_tup (dd_cons (de_int) (dd_nil))) da_nil))))) (fun z => by have hm := ite_f hv38 z; obtain ⟨r37, hr37, hm⟩ := bnd hm; obtain rfl := inj_r hm; exact (dw_or1 (dt_not (dt_val (de_sameT (x := (r37 : (T2 Int (List Int)))) (y := (⟨(7 : Int), ([(1 : Int)] : (List Int))⟩ : (T2 Int (List Int)))) rfl (da_dat (de_call (d := (en (r37 : (T2 Int (List Int))))) (C := C_best_brief) (n := 3) rfl (da_dat (de_var rfl rfl) (da_dat (de_var rfl rfl) (da_dat (de_int) (da_nil)))) (.dat (.dat (.dat .nil))) ⟨_, _, _, r37, hr37, rfl, rfl, rfl⟩ .none) (da_dat (de_tup (dd_cons (de_int) (dd_cons (de_tup (dd_cons (de_int) (dd_nil))) (dd_nil)))) da_nil))))))) (fun z => by have hm := ite_t hv38 z; obtain rfl := inj_r hm; exact ⟨rfl, rfl⟩))) (fun z => by have hm := ite_t hv39 z; obtain rfl := inj_r hm; exact ⟨rfl, rfl⟩))) (ne_t k40)) (fun z => by cases z) (fun _ => dss_nil .refl)) ?_
  obtain ⟨r41, hr41, hm⟩ := bnd hm
  obtain ⟨v45, hv45, hm⟩ := bnd hm
  by_cases k46 : v45 = true
  · have hm := ite_t hm k46
    refine dss_end (ds_if (dt_eq (dt_w (dw_or (k2 := v45) (S2 := [.bor (.lst (List.map Enc.enc (a0 : (List Int)))), .own (.lst (List.map Enc.enc (t32 : (List Int)))), .dat (en (v4 : Int)), .un, .dat (en (v33 : (List (List Str)))), .dat (en (v34 : (List (T2 Str Int)))), .un, .un, .un, .un, .un, .un, .un]) (dt_not (dt_val (de_sameT (x := (r41 : (List Int))) (y := ([(1 : Int), (3 : Int)] : (List Int))) rfl (da_dat (de_call (d := (en (r41 : (List Int)))) (C := C_needless_in) (n := 3) rfl (da_dat (de_var rfl rfl) (da_dat (de_var rfl rfl) (da_dat (de_tup (dd_cons (de_int) (dd_cons (de_int) (dd_cons (de_int) (dd_nil))))) (da_nil)))) (.dat (.dat (.dat .nil))) ⟨_, _, _, r41, hr41, rfl, rfl, rfl⟩ .none) (da_dat (de_tup (dd_cons (de_int) (dd_cons (de_int) (dd_nil)))) da_nil))))) (fun z => by have hm := ite_f hv45 z; obtain ⟨r42, hr42, hm⟩ := bnd hm; obtain ⟨v44, hv44, hm⟩ := bnd hm; obtain rfl := inj_r hm; exact (dw_or (k2 := v44) (S2 := [.bor (.lst (List.map Enc.enc (a0 : (List Int)))), .own (.lst (List.map Enc.enc (t32 : (List Int)))), .dat (en (v4 : Int)), .un, .dat (en (v33 : (List (List Str)))), .dat (en (v34 : (List (T2 Str Int)))), .un, .un, .un, .un, .un, .un, .un]) (dt_not (dt_val (de_sameT (x := (r42 : (List Int))) (y := ([(0 : Int), (1 : Int)] : (List Int))) rfl (da_dat (de_call (d := (en (r42 : (List Int)))) (C := C_first_sentences) (n := 2) rfl (da_dat (de_var rfl rfl) (da_dat (de_int) (da_nil))) (.dat (.dat .nil)) ⟨_, _, r42, hr42, rfl, rfl, rfl⟩ .none) (da_dat (de_tup (dd_cons (de_int) (dd_cons (de_int) (dd_nil)))) da_nil))))) (fun z => by have hm := ite_f hv44 z; obtain ⟨r43, hr43, hm⟩ := bnd hm; obtain rfl := inj_r hm; exact (dw_or1 (dt_not (dt_val (de_sameT (x := (r43 : Int)) (y := (7 : Int)) rfl (da_dat (de_call (d := (en (r43 : Int))) (C := C_words_in_brief) (n := 2) rfl (da_dat (de_var rfl rfl) (da_dat (de_tup (dd_cons (de_int) (dd_cons (de_int) (dd_nil)))) (da_nil))) (.dat (.dat .nil)) ⟨_, _, r43, hr43, rfl, rfl, rfl⟩ .none) (da_dat (de_int) da_nil))))))) (fun z => by have hm := ite_t hv44 z; obtain rfl := inj_r hm; exact ⟨rfl, rfl⟩))) (fun z => by have hm := ite_t hv45 z; obtain rfl := inj_r hm; exact ⟨rfl, rfl⟩))) k46) (fun _ => ?_) (fun z => by cases z)) rfl
    obtain rfl := inj_r hm
    exact dss_end (ds_le (S := _) (ds_ret (de_bl)) (.ret (.un rfl (.un rfl (.un rfl (.eq (.un rfl (.un rfl (.eq (.eq (.eq (.eq (.eq (.eq (.eq .nil)))))))))))))))
  have hm := ite_f hm (ne_t k46)
  refine dss_cons (ds_if (dt_eq (dt_w (dw_or (k2 := v45) (S2 := [.bor (.lst (List.map Enc.enc (a0 : (List Int)))), .own (.lst (List.map Enc.enc (t32 : (List Int)))), .dat (en (v4 : Int)), .un, .dat (en (v33 : (List (List Str)))), .dat (en (v34 : (List (T2 Str Int)))), .un, .un, .un, .un, .un, .un, .un]) (dt_not (dt_val (de_sameT (x := (r41 : (List Int))) (y := ([(1 : Int), (3 : Int)] : (List Int))) rfl (da_dat (de_call (d := (en (r41 : (List Int)))) (C := C_needless_in) (n := 3) rfl (da_dat (de_var rfl rfl) (da_dat (de_var rfl rfl) (da_dat (de_tup (dd_cons (de_int) (dd_cons (de_int) (dd_cons (de_int) (dd_nil))))) (da_nil)))) (.dat (.dat (.dat .nil))) ⟨_, _, _, r41, hr41, rfl, rfl, rfl⟩ .none) (da_dat (de_tup (dd_cons (de_int) (dd_cons (de_int) (dd_nil)))) da_nil))))) (fun z => by have hm := ite_f hv45 z; obtain ⟨r42, hr42, hm⟩ := bnd hm; obtain ⟨v44, hv44, hm⟩ := bnd hm; obtain rfl := inj_r hm; exact (dw_or (k2 := v44) (S2 := [.bor (.lst (List.map Enc.enc (a0 : (List Int)))), .own (.lst (List.map Enc.enc (t32 : (List Int)))), .dat (en (v4 : Int)), .un, .dat (en (v33 : (List (List Str)))), .dat (en (v34 : (List (T2 Str Int)))), .un, .un, .un, .un, .un, .un, .un]) (dt_not (dt_val (de_sameT (x := (r42 : (List Int))) (y := ([(0 : Int), (1 : Int)] : (List Int))) rfl (da_dat (de_call (d := (en (r42 : (List Int)))) (C := C_first_sentences) (n := 2) rfl (da_dat (de_var rfl rfl) (da_dat (de_int) (da_nil))) (.dat (.dat .nil)) ⟨_, _, r42, hr42, rfl, rfl, rfl⟩ .none) (da_dat (de_tup (dd_cons (de_int) (dd_cons (de_int) (dd_nil)))) da_nil))))) (fun z => by have hm := ite_f hv44 z; obtain ⟨r43, hr43, hm⟩ := bnd hm; obtain rfl := inj_r hm; exact (dw_or1 (dt_not (dt_val (de_sameT (x := (r43 : Int)) (y := (7 : Int)) rfl (da_dat (de_call (d := (en (r43 : Int))) (C := C_words_in_brief) (n := 2) rfl (da_dat (de_var rfl rfl) (da_dat (de_tup (dd_cons (de_int) (dd_cons (de_int) (dd_nil)))) (da_nil))) (.dat (.dat .nil)) ⟨_, _, r43, hr43, rfl, rfl, rfl⟩ .none) (da_dat (de_int) da_nil))))))) (fun z => by have hm := ite_t hv44 z; obtain rfl := inj_r hm; exact ⟨rfl, rfl⟩))) (fun z => by have hm := ite_t hv45 z; obtain rfl := inj_r hm; exact ⟨rfl, rfl⟩))) (ne_t k46)) (fun z => by cases z) (fun _ => dss_nil .refl)) ?_
  obtain ⟨r47, hr47, hm⟩ := bnd hm
  obtain ⟨v51, hv51, hm⟩ := bnd hm
  obtain rfl := inj_r hm
  exact dss_end (ds_le (S := _) (ds_ret (de_and (k2 := v51) (S2 := [.bor (.lst (List.map Enc.enc (a0 : (List Int)))), .own (.lst (List.map Enc.enc (t32 : (List Int)))), .dat (en (v4 : Int)), .un, .dat (en (v33 : (List (List Str)))), .dat (en (v34 : (List (T2 Str Int)))), .un, .un, .un, .un, .un, .un, .un]) (de_sameT (x := (r47 : (T2 Int (List Int)))) (y := (⟨(0 : Int), ([] : (List Int))⟩ : (T2 Int (List Int)))) rfl (da_dat (de_call (d := (en (r47 : (T2 Int (List Int))))) (C := C_best_brief) (n := 3) rfl (da_dat (de_tup (dd_nil)) (da_dat (de_var rfl rfl) (da_dat (de_int) (da_nil)))) (.dat (.dat (.dat .nil))) ⟨_, _, _, r47, hr47, rfl, rfl, rfl⟩ .none) (da_dat (de_tup (dd_cons (de_int) (dd_cons (de_tup (dd_nil)) (dd_nil)))) da_nil))) (fun z => by have hm := ite_t hv51 z; obtain ⟨r48, hr48, hm⟩ := bnd hm; obtain ⟨v50, hv50, hm⟩ := bnd hm; obtain rfl := inj_r hm; exact (de_and (k2 := v50) (S2 := [.bor (.lst (List.map Enc.enc (a0 : (List Int)))), .own (.lst (List.map Enc.enc (t32 : (List Int)))), .dat (en (v4 : Int)), .un, .dat (en (v33 : (List (List Str)))), .dat (en (v34 : (List (T2 Str Int)))), .un, .un, .un, .un, .un, .un, .un]) (de_sameT (x := (r48 : Int)) (y := (0 : Int)) rfl (da_dat (de_call (d := (en (r48 : Int))) (C := C_worth_of_brief) (n := 3) rfl (da_dat (de_var rfl rfl) (da_dat (de_tup (dd_nil)) (da_dat (de_tup (dd_cons (de_int) (dd_cons (de_int) (dd_nil)))) (da_nil)))) (.dat (.dat (.dat .nil))) ⟨_, _, _, r48, hr48, rfl, rfl, rfl⟩ .none) (da_dat (de_int) da_nil))) (fun z => by have hm := ite_t hv50 z; obtain ⟨r49, hr49, hm⟩ := bnd hm; obtain rfl := inj_r hm; exact (de_one (de_sameT (x := (r49 : (List Int))) (y := ([(0 : Int), (1 : Int)] : (List Int))) rfl (da_dat (de_call (d := (en (r49 : (List Int)))) (C := C_first_sentences) (n := 2) rfl (da_dat (de_tup (dd_cons (de_tup (dd_nil)) (dd_cons (de_tup (dd_nil)) (dd_nil)))) (da_dat (de_int) (da_nil))) (.dat (.dat .nil)) ⟨_, _, r49, hr49, rfl, rfl, rfl⟩ .none) (da_dat (de_tup (dd_cons (de_int) (dd_cons (de_int) (dd_nil)))) da_nil))))) (fun z => by have hm := ite_f hv50 z; obtain rfl := inj_r hm; exact ⟨rfl, rfl⟩))) (fun z => by have hm := ite_f hv51 z; obtain rfl := inj_r hm; exact ⟨rfl, rfl⟩))) (.ret (.un rfl (.un rfl (.un rfl (.eq (.un rfl (.un rfl (.eq (.eq (.eq (.eq (.eq (.eq (.eq .nil)))))))))))))))
theorem h_law {P : Program} {w : World} {K : PySem.W.Frag} {mg : Str → Option Value} {base : Heap} {k : Nat} {f : Addr} {fd : FuncData} (F : Fun K "law" "law" (topS 21) f fd) (hm : mg "law" = some (.ref f))  (z : ∀ x ∈ g_law.blt ++ g_law.hid, mg x = none) (H0 : Has P w K mg base k "_law_draws" 2 C__law_draws) (H1 : Has P w K mg base k "_law_take" 2 C__law_take) (H2 : Has P w K mg base k "_law_text" 2 C__law_text) (H3 : Has P w K mg base k "_law_table" 2 C__law_table) (H4 : Has P w K mg base k "best_brief" 3 C_best_brief) (H5 : Has P w K mg base k "_law_same" 2 (sameC 8)) (H6 : Has P w K mg base k "worth_of_brief" 3 C_worth_of_brief) (H7 : Has P w K mg base k "first_sentences" 2 C_first_sentences) (H8 : Has P w K mg base k "_law_is_best_right" 3 C__law_is_best_right) (H9 : Has P w K mg base k "_law_is_told_right" 3 C__law_is_told_right) (H10 : Has P w K mg base k "greedy_brief" 3 C_greedy_brief) (H11 : Has P w K mg base k "needless_in" 3 C_needless_in) (H12 : Has P w K mg base k "words_in_brief" 2 C_words_in_brief) (H13 : Has P w K mg base k "_law_cell" 2 C__law_cell) : FnOk P w K mg base CX0 (k + 1) f fd ["script"] (spC K 1 C_law) :=
  (fn_ok F (N := ["script", "draws", "scale", "turn", "text", "table", "sentences", "most", "by", "great", "told", "weight", "word"]) (G := g_law) ⟨rfl, rfl, rfl, by decide +kernel, rfl, by decide +kernel, by decide +kernel⟩ rfl (by decide +kernel) rfl rfl rfl z (fun x m C e => by
    have e := lookup_mem e
    simp only [g_law, List.cons_append, List.nil_append, List.mem_cons, List.not_mem_nil, Prod.mk.injEq, or_false] at e
    rcases e with ⟨rfl, rfl, rfl⟩ | ⟨rfl, rfl, rfl⟩ | ⟨rfl, rfl, rfl⟩ | ⟨rfl, rfl, rfl⟩ | ⟨rfl, rfl, rfl⟩ | ⟨rfl, rfl, rfl⟩ | ⟨rfl, rfl, rfl⟩ | ⟨rfl, rfl, rfl⟩ | ⟨rfl, rfl, rfl⟩ | ⟨rfl, rfl, rfl⟩ | ⟨rfl, rfl, rfl⟩ | ⟨rfl, rfl, rfl⟩ | ⟨rfl, rfl, rfl⟩ | ⟨rfl, rfl, rfl⟩
    · exact H0
    · exact H1
    · exact H2
    · exact H3
    · exact H4
    · exact H5
    · exact H6
    · exact H7
    · exact H8
    · exact H9
    · exact H10
    · exact H11
    · exact H12
    · exact H13) (fun T r0 T' hC _ _ => by
      obtain ⟨fuel, a0, r, hm, rfl, rfl, rfl⟩ := hC
      exact w_law _ _ _ hm) (fun T r0 T' hC => by
      obtain ⟨fuel, a0, r, hm, rfl, rfl, rfl⟩ := hC
      exact ⟨Enc.pure _, fun s hs => by cases hs with | head => exact rfl | tail _ hs => exact (by cases hs)⟩))
end Pw
namespace Pw
open PySem PySem.Spec L2
/-! ### plain lemmas -/
theorem chkN_some {n : Nat} (h : n < 16777216) : chkN n = some () := if_pos h
theorem chkI_some {n : Int} (h : n < 16777216) : chkI n = some () := if_pos h
theorem chkP_some {n : Int} (h : 0 < n) : chkP n = some () := if_pos h
theorem chk64_some {n : Nat} (h : n < 64) : chk64 n = some () := if_pos h
theorem chkD_some {n : Int} (h : 0 < n) (h2 : n < 1073741824) : chkD n = some () := if_pos ⟨h, h2⟩
theorem chkM_l {i j : Int} (h : -(2 ^ 64) < i) (h2 : i < 2 ^ 64) : chkM i j = some () := if_pos (.inl ⟨h, h2⟩)
theorem chkM_r {i j : Int} (h : -(2 ^ 64) < j) (h2 : j < 2 ^ 64) : chkM i j = some () := if_pos (.inr ⟨h, h2⟩)
theorem atI_at {α : Type} {xs : List α} {i : Int} (h : 0 ≤ i) (h2 : i < xs.length) : atI xs i = some (xs[i.toNat]'(by omega)) := by
  unfold atI ixN
  rw [if_pos h, if_pos h2]
  exact List.getElem?_eq_getElem (by omega)
theorem atI_some {α : Type} {xs : List α} {i : Int} (h : 0 ≤ i) (h2 : i < xs.length) : ∃ v, atI xs i = some v ∧ v ∈ xs := ⟨_, atI_at h h2, List.getElem_mem _⟩
theorem setI_some {α : Type} {xs : List α} {i : Int} {v : α} (h : 0 ≤ i) (h2 : i < xs.length) : setI xs i v = some (xs.set i.toNat v) := by
  unfold setI ixN
  rw [if_pos h, if_pos h2]
  rfl
theorem loopF_ok {α τ : Type} {step : τ → α → Option τ} (I : Nat → τ → Prop) : ∀ (xs : List α) (n : Nat) (t : τ), I n t → (∀ k t x, x ∈ xs → k < n + xs.length → n ≤ k → I k t → ∃ t', step t x = some t' ∧ I (k + 1) t') → ∃ t1, loopF step t xs = some t1 ∧ I (n + xs.length) t1
  | [], n, t, h, _ => ⟨t, rfl, h⟩
  | x :: xs, n, t, h, hs => by
    obtain ⟨t', h1, h2⟩ := hs n t x List.mem_cons_self (by rw [List.length_cons]; omega) (Nat.le_refl _) h
    obtain ⟨t1, h3, h4⟩ := loopF_ok I xs (n + 1) t' h2 fun k t y hy hk hn hI => hs k t y (List.mem_cons_of_mem _ hy) (by rw [List.length_cons]; omega) (by omega) hI
    refine ⟨t1, ?_, by rw [List.length_cons]; rw [show n + (xs.length + 1) = n + 1 + xs.length by omega]; exact h4⟩
    unfold loopF
    rw [h1]
    exact h3
theorem loopF_ok' {α τ : Type} {step : τ → α → Option τ} (I : τ → Prop) (xs : List α) (t : τ) (h : I t) (hs : ∀ t x, x ∈ xs → I t → ∃ t', step t x = some t' ∧ I t') : ∃ t1, loopF step t xs = some t1 ∧ I t1 :=
  loopF_ok (fun _ => I) xs 0 t h fun _ t x hx _ _ hI => hs t x hx hI
theorem compM_ok {α β τ : Type} {step : τ → α → Option (Option β × τ)} (I : τ → Prop) (R : α → β → Prop) : ∀ (xs : List α) (t : τ), I t → (∀ t x, x ∈ xs → I t → ∃ o t', step t x = some (o, t') ∧ I t' ∧ ∀ y, o = some y → R x y) →
    ∃ ys t1, compM step t xs = some (ys, t1) ∧ I t1 ∧ ys.length ≤ xs.length ∧ ∀ y ∈ ys, ∃ x ∈ xs, R x y
  | [], t, h, _ => ⟨[], t, rfl, h, Nat.le_refl _, fun _ h => by cases h⟩
  | x :: xs, t, h, hs => by
    obtain ⟨o, t', h1, h2, h3⟩ := hs t x List.mem_cons_self h
    obtain ⟨ys, t1, h4, h5, h6, h7⟩ := compM_ok I R xs t' h2 fun t y hy => hs t y (List.mem_cons_of_mem _ hy)
    refine ⟨consO o ys, t1, ?_, h5, ?_, ?_⟩
    · unfold compM
      rw [h1]
      simp only [h4]
    · cases o with
      | none => exact Nat.le_succ_of_le h6
      | some y => exact Nat.succ_le_succ h6
    · intro y hy
      cases o with
      | none =>
        obtain ⟨z, hz, r⟩ := h7 y hy
        exact ⟨z, List.mem_cons_of_mem _ hz, r⟩
      | some w =>
        rcases List.mem_cons.mp hy with rfl | hy
        · exact ⟨x, List.mem_cons_self, h3 _ rfl⟩
        · obtain ⟨z, hz, r⟩ := h7 y hy
          exact ⟨z, List.mem_cons_of_mem _ hz, r⟩
/-- items that are kept or dropped stand in their order -/
theorem compM_sub {α τ : Type} {step : τ → α → Option (Option α × τ)} : ∀ (xs : List α) (t : τ) (ys : List α) (t1 : τ), compM step t xs = some (ys, t1) → (∀ t x o t', step t x = some (o, t') → ∀ y, o = some y → y = x) → ys.Sublist xs
  | [], t, ys, t1, h, _ => by
    have h := Option.some.inj h
    cases h
    exact .slnil
  | x :: xs, t, ys, t1, h, hs => by
    unfold compM at h
    cases h1 : step t x with
    | none => rw [h1] at h; cases h
    | some p =>
      obtain ⟨o, t'⟩ := p
      rw [h1] at h
      cases h2 : compM step t' xs with
      | none => simp only [h2] at h; cases h
      | some q =>
        obtain ⟨zs, t2⟩ := q
        simp only [h2] at h
        have h := Option.some.inj h
        cases h
        have ih := compM_sub xs t' zs _ h2 hs
        cases o with
        | none => exact .cons _ ih
        | some y =>
          have := hs t x _ _ h1 y rfl
          subst this
          exact .cons_cons _ ih
theorem compO_filter {α β : Type} {step : α → Option (Option β)} {cd : α → Bool} {el : α → β} : ∀ (xs : List α), (∀ x ∈ xs, step x = some (if cd x = true then some (el x) else none)) → compO step xs = some ((xs.filter cd).map el)
  | [], _ => rfl
  | x :: xs, h => by
    unfold compO
    rw [h x List.mem_cons_self, compO_filter xs fun y hy => h y (List.mem_cons_of_mem _ hy)]
    by_cases hc : cd x = true <;> simp [hc, List.filter_cons, consO]
theorem loopM_congr {α τ ρ : Type} {s1 s2 : τ → α → Option (Out ρ τ)} : ∀ (xs : List α) (t : τ), (∀ t x, x ∈ xs → s1 t x = s2 t x) → loopM s1 t xs = loopM s2 t xs
  | [], _, _ => rfl
  | x :: xs, t, h => by
    unfold loopM
    rw [h t x List.mem_cons_self]
    cases s2 t x with
    | none => rfl
    | some o => cases o with
      | nx t' => exact loopM_congr xs t' fun t y hy => h t y (List.mem_cons_of_mem _ hy)
      | bk t' => rfl
      | ret r => rfl
theorem loopM_nx {α τ ρ : Type} {step : τ → α → Option (Out ρ τ)} (I : τ → Prop) : ∀ (xs : List α) (t : τ), I t → (∀ t x, x ∈ xs → I t → ∃ t', step t x = some (.nx t') ∧ I t') → ∃ t1, loopM step t xs = some (.nx t1) ∧ I t1
  | [], t, h, _ => ⟨t, rfl, h⟩
  | x :: xs, t, h, hs => by
    obtain ⟨t', h1, h2⟩ := hs t x List.mem_cons_self h
    obtain ⟨t1, h3, h4⟩ := loopM_nx I xs t' h2 fun t y hy => hs t y (List.mem_cons_of_mem _ hy)
    refine ⟨t1, ?_, h4⟩
    unfold loopM
    rw [h1]
    exact h3
theorem rng_mem {lo hi x : Int} : x ∈ rng lo hi ↔ lo ≤ x ∧ x < hi := by
  unfold rng
  rw [List.mem_map]
  constructor
  · rintro ⟨i, h1, rfl⟩
    have := List.mem_range.mp h1
    omega
  · intro h
    exact ⟨(x - lo).toNat, List.mem_range.mpr (by omega), by omega⟩
theorem emod_lt {a b : Int} (h : 0 < b) : 0 ≤ a % b ∧ a % b < b := ⟨Int.emod_nonneg _ (by omega), Int.emod_lt_of_pos _ h⟩

theorem filt_true {α : Type} {xs : List α} : List.filter (fun _ => true) xs = xs := List.filter_eq_self.mpr fun _ _ => rfl

/-! ### the draws -/
theorem take_ok (ds : List Int) (n : Int) (h : 0 < n) : ∃ v ds', m__law_take ds n = some (v, ds') ∧ 0 ≤ v ∧ v < n := by
  unfold m__law_take
  by_cases h0 : ds.length = 0
  · refine ⟨0, ds, ?_, by omega, h⟩
    rw [if_pos (by simpa using h0)]
  · rw [if_neg (by simp; intro z; exact h0 (by rw [z]; rfl))]
    obtain ⟨v, hv⟩ : ∃ v, ds.getLast? = some v := by
      cases ds with
      | nil => exact absurd rfl h0
      | cons x xs => exact ⟨_, List.getLast?_eq_getLast (List.cons_ne_nil x xs)⟩
    unfold popL
    rw [hv, chkP_some h]
    exact ⟨v % n, ds.dropLast, rfl, emod_lt h⟩
theorem draws_ok (script : List Int) (n : Int) (h : 0 ≤ n) (h2 : n ≤ 100000) : ∃ ds, m__law_draws script n = some ds := by
  unfold m__law_draws
  simp only [Option.bind_some, filt_true, List.map_id']
  obtain ⟨cells, hc, hl⟩ : ∃ cells : List Int, (if decide ((script.length : Int) = 0) = true then (chkN script.length).bind fun _ => some (script ++ [(0 : Int)]) else some script) = some cells ∧ 0 < cells.length := by
    by_cases h0 : script.length = 0
    · rw [if_pos (by simpa using h0), h0, chkN_some (by omega)]
      exact ⟨_, rfl, by simp⟩
    · rw [if_neg (by simp; intro z; exact h0 (by rw [z]; rfl))]
      exact ⟨_, rfl, by omega⟩
  rw [hc]
  simp only [Option.bind_some]
  have hpos : (0 : Int) < cells.length := by omega
  have hn : (rng 0 n).length ≤ 100000 := by rw [rng_len]; omega
  obtain ⟨t1, h1, _⟩ := loopF_ok (step := fun (t6 : List Int × List Int) (x7 : Int) => (chkP (cells.length : Int)).bind fun _ => (atI cells (x7 % (cells.length : Int))).bind fun v10 =>
      (if decide ((10 ^ 18 : Int) ≤ v10) = true then (atI t6.1 (x7 % (cells.length : Int))).bind fun v11 => some (decide ((0 : Int) < v11)) else some false).bind fun v12 =>
      (if v12 = true then (atI t6.1 (x7 % (cells.length : Int))).bind fun v14 => (chkN t6.2.length).bind fun _ => (atI t6.1 (x7 % (cells.length : Int))).bind fun v16 => (setI t6.1 (x7 % (cells.length : Int)) (v16 / (1000 : Int))).bind fun v17 => some (v17, t6.2 ++ [v14 % (1000 : Int)])
      else (atI cells (x7 % (cells.length : Int))).bind fun v18 => (chkM ((v18 * 48271 + x7 * 69621 + 11) % 2147483647) ((v18 * 48271 + x7 * 69621 + 11) % 2147483647)).bind fun _ => (chkN t6.2.length).bind fun _ =>
        some (t6.1, t6.2 ++ [(((v18 * 48271 + x7 * 69621 + 11) % 2147483647) * ((v18 * 48271 + x7 * 69621 + 11) % 2147483647) + 3 * ((v18 * 48271 + x7 * 69621 + 11) % 2147483647) + x7) % (1000003 : Int)])).bind fun j22 => some (j22.1, j22.2))
    (fun k t => t.1.length = cells.length ∧ t.2.length = k) (rng 0 n) 0 (cells, []) ⟨rfl, rfl⟩ fun k t x hx hk _ hI => by
      obtain ⟨i1, i2⟩ := hI
      obtain ⟨m1, m2⟩ := emod_lt (a := x) hpos
      obtain ⟨v, hv, _⟩ := atI_some (xs := cells) m1 m2
      obtain ⟨u, hu, _⟩ := atI_some (xs := t.1) (i := x % (cells.length : Int)) m1 (by rw [i1]; exact m2)
      simp only [chkP_some hpos, hv, hu, Option.bind_some, setI_some (xs := t.1) m1 (show x % (cells.length : Int) < t.1.length by rw [i1]; exact m2), chkN_some (show t.2.length < 16777216 by omega)]
      have em := emod_lt (a := v * 48271 + x * 69621 + 11) (b := 2147483647) (by omega)
      rw [chkM_l (i := (v * 48271 + x * 69621 + 11) % 2147483647) (by omega) (by omega)]
      simp only [Option.bind_some]
      by_cases hb : decide ((10 ^ 18 : Int) ≤ v) = true
      · rw [if_pos hb]
        simp only [Option.bind_some]
        by_cases hc : decide ((0 : Int) < u) = true
        · rw [if_pos hc]
          exact ⟨_, rfl, by simpa using i1, by simp [i2]⟩
        · rw [if_neg hc]
          exact ⟨_, rfl, i1, by simp [i2]⟩
      · rw [if_neg hb]
        simp only [Option.bind_some, Bool.false_eq_true, if_false]
        exact ⟨_, rfl, i1, by simp [i2]⟩
  rw [h1]
  exact ⟨_, rfl⟩
/-- a comprehension that keeps every item -/
theorem compM_all {α β τ : Type} {step : τ → α → Option (Option β × τ)} (R : β → Prop) : ∀ (xs : List α) (t : τ), (∀ t x, x ∈ xs → ∃ y t', step t x = some (some y, t') ∧ R y) →
    ∃ ys t1, compM step t xs = some (ys, t1) ∧ ys.length = xs.length ∧ ∀ y ∈ ys, R y
  | [], t, _ => ⟨[], t, rfl, rfl, fun _ h => by cases h⟩
  | x :: xs, t, h => by
    obtain ⟨y, t', h1, h2⟩ := h t x List.mem_cons_self
    obtain ⟨ys, t1, h3, h4, h5⟩ := compM_all R xs t' fun t z hz => h t z (List.mem_cons_of_mem _ hz)
    refine ⟨y :: ys, t1, ?_, by rw [List.length_cons, List.length_cons, h4], fun z hz => ?_⟩
    · unfold compM
      rw [h1]
      simp only [h3, consO]
    · rcases List.mem_cons.mp hz with rfl | hz
      · exact h2
      · exact h5 z hz
/-! ### the cell -/
theorem cell_ok (script ds : List Int) : ∃ v ds', m__law_cell script ds = some (v, ds') := by
  unfold m__law_cell
  by_cases h0 : script.length = 0
  · exact ⟨0, ds, by rw [if_pos (by simpa using h0)]⟩
  · rw [if_neg (by simp; intro z; exact h0 (by rw [z]; rfl))]
    obtain ⟨n, ds1, e1, n0, n1⟩ := take_ok ds (script.length : Int) (by omega)
    obtain ⟨v, hv, _⟩ := atI_some (xs := script) n0 n1
    rw [e1, Option.bind_some]
    simp only [hv, Option.bind_some]
    by_cases hv0 : v < 0
    · rw [if_pos (show decide (v < 0) = true by simpa using hv0)]
      rw [show atI ([1, -1] : List Int) 1 = some (-1) from rfl, Option.bind_some, chkM_r (by omega) (by omega)]
      exact ⟨_, _, rfl⟩
    · rw [if_neg (show ¬ decide (v < 0) = true by simpa using hv0)]
      rw [show atI ([1, -1] : List Int) 0 = some 1 from rfl, Option.bind_some, chkM_r (by omega) (by omega)]
      exact ⟨_, _, rfl⟩
/-! ### that a partial value is one, and what it is -/
def Ok {α : Type} (o : Option α) (Q : α → Prop) : Prop := ∃ r, o = some r ∧ Q r
section
variable {α β τ ρ : Type} {o : Option α} {f : α → Option β} {Q : β → Prop} {P : α → Prop} {a : α} {x y : Option β} {c : Bool}
theorem ok_bind (h : Ok o fun a => Ok (f a) Q) : Ok (o.bind f) Q := by
  obtain ⟨a, rfl, r, e, q⟩ := h
  exact ⟨r, e, q⟩
theorem ok_some {P : α → Prop} (h : P a) : Ok (some a) P := ⟨a, rfl, h⟩
theorem ok_eq (e : o = some a) (h : P a) : Ok o P := ⟨a, e, h⟩
theorem ok_mono {P P' : α → Prop} (h : Ok o P) (w : ∀ a, P a → P' a) : Ok o P' := by
  obtain ⟨a, e, q⟩ := h
  exact ⟨a, e, w a q⟩
theorem ok_if (h1 : c = true → Ok x Q) (h2 : c = false → Ok y Q) : Ok (if c = true then x else y) Q := by
  cases c with
  | true => exact h1 rfl
  | false => exact h2 rfl
theorem b_some (h : Ok (f a) Q) : Ok ((some a).bind f) Q := h
theorem b_eq (e : o = some a) (h : Ok (f a) Q) : Ok (o.bind f) Q := by rw [e]; exact h
theorem b_ok (h : Ok o P) (k : ∀ a, P a → Ok (f a) Q) : Ok (o.bind f) Q := by
  obtain ⟨a, rfl, p⟩ := h
  exact k a p
theorem b_no (hc : c = false) (h : Ok y Q) : Ok (if c = true then x else y) Q := by rw [hc]; exact h
theorem b_yes (hc : c = true) (h : Ok x Q) : Ok (if c = true then x else y) Q := by rw [hc]; exact h
theorem b_ifb {x y : Option α} (h1 : c = true → Ok (x.bind f) Q) (h2 : c = false → Ok (y.bind f) Q) : Ok ((if c = true then x else y).bind f) Q := by
  cases c with
  | true => exact h1 rfl
  | false => exact h2 rfl
/-- `a or b`, a False; `a and b`, a True -/
theorem b_or {x y : Option α} (hc : c = false) (h : Ok (y.bind f) Q) : Ok ((if c = true then x else y).bind f) Q := by rw [hc]; exact h
theorem b_and {x y : Option α} (hc : c = true) (h : Ok (x.bind f) Q) : Ok ((if c = true then x else y).bind f) Q := by rw [hc]; exact h
theorem b_bind {γ : Type} {o : Option γ} {g : γ → Option α} (h : Ok (o.bind fun x => (g x).bind f) Q) : Ok ((o.bind g).bind f) Q := by
  rw [Option.bind_assoc]; exact h
theorem b_chkN {f : Unit → Option β} {n : Nat} (h : n < 16777216) (k : Ok (f ()) Q) : Ok ((chkN n).bind f) Q := by rw [chkN_some h]; exact k
theorem b_chkI {f : Unit → Option β} {n : Int} (h : n < 16777216) (k : Ok (f ()) Q) : Ok ((chkI n).bind f) Q := by rw [chkI_some h]; exact k
theorem b_chkP {f : Unit → Option β} {n : Int} (h : 0 < n) (k : Ok (f ()) Q) : Ok ((chkP n).bind f) Q := by rw [chkP_some h]; exact k
theorem b_chkD {f : Unit → Option β} {n : Int} (h : 0 < n) (h2 : n < 1073741824) (k : Ok (f ()) Q) : Ok ((chkD n).bind f) Q := by rw [chkD_some h h2]; exact k
theorem b_chk64 {f : Unit → Option β} {n : Nat} (h : n < 64) (k : Ok (f ()) Q) : Ok ((chk64 n).bind f) Q := by rw [chk64_some h]; exact k
theorem chkS_some {n : Nat} (h : n + 1 < 4096) : chkS n = some () := if_pos h
theorem b_chkS {f : Unit → Option β} {n : Nat} (h : n + 1 < 4096) (k : Ok (f ()) Q) : Ok ((chkS n).bind f) Q := by rw [chkS_some h]; exact k
theorem b_chkRg {f : Unit → Option β} {lo hi : Int} (h : -1000000000000000000 ≤ lo ∧ lo < 1000000000000000000 ∧ -1000000000000000000 ≤ hi ∧ hi < 1000000000000000000 ∧ hi - lo < 16777216) (k : Ok (f ()) Q) : Ok ((chkRg lo hi).bind f) Q := by rw [show chkRg lo hi = some () from if_pos h]; exact k
theorem chkM_sm {i j : Int} (h : (-(2 ^ 64) < i ∧ i < 2 ^ 64) ∨ (-(2 ^ 64) < j ∧ j < 2 ^ 64)) : chkM i j = some () := if_pos h
theorem b_chkM {f : Unit → Option β} {i j : Int} (h : (-(2 ^ 64) < i ∧ i < 2 ^ 64) ∨ (-(2 ^ 64) < j ∧ j < 2 ^ 64)) (k : Ok (f ()) Q) : Ok ((chkM i j).bind f) Q := by rw [chkM_sm h]; exact k
theorem b_take {f : Int × List Int → Option β} {ds : List Int} {n : Int} (h : 0 < n) (k : ∀ v ds', 0 ≤ v → v < n → Ok (f (v, ds')) Q) : Ok ((m__law_take ds n).bind f) Q := by
  obtain ⟨v, ds', e, h0, h1⟩ := take_ok ds n h
  rw [e]
  exact k v ds' h0 h1
theorem b_at {f : α → Option β} {xs : List α} {i : Int} (h0 : 0 ≤ i) (h1 : i < xs.length) (k : ∀ v, v ∈ xs → xs[i.toNat]? = some v → Ok (f v) Q) : Ok ((atI xs i).bind f) Q := by
  rw [atI_at h0 h1]
  exact k _ (List.getElem_mem _) (List.getElem?_eq_getElem _)
theorem atI_last {xs : List α} (h : xs ≠ []) : atI xs (-1) = some (xs.getLast h) := by
  have hl : 0 < xs.length := List.length_pos_iff.mpr h
  unfold atI ixN
  rw [if_neg (by omega), if_pos (by omega), Option.bind_some]
  rw [show ((-1 : Int) + (xs.length : Int)).toNat = xs.length - 1 by omega, ← List.getLast?_eq_getElem?, List.getLast?_eq_getLast h]
theorem b_last {f : α → Option β} {xs : List α} (h : xs ≠ []) (k : ∀ v, v ∈ xs → Ok (f v) Q) : Ok ((atI xs (-1)).bind f) Q := by
  rw [atI_last h]
  exact k _ (List.getLast_mem h)
theorem b_loopM {γ : Type} {xs : List γ} {step : τ → γ → Option (Out ρ τ)} {t : τ} {f : Out ρ τ → Option β} (I : τ → Prop) (h : I t) (hs : ∀ t x, x ∈ xs → I t → Ok (step t x) fun o => ∃ t', o = .nx t' ∧ I t') (k : ∀ t, I t → Ok (f (.nx t)) Q) : Ok ((loopM step t xs).bind f) Q := by
  obtain ⟨t1, e, h1⟩ := loopM_nx I xs t h fun t x hx hI => by
    obtain ⟨o, e, t', rfl, h2⟩ := hs t x hx hI
    exact ⟨t', e, h2⟩
  rw [e]
  exact k t1 h1
theorem b_loopF {γ : Type} {xs : List γ} {step : τ → γ → Option τ} {t : τ} {f : τ → Option β} (I : Nat → τ → Prop) (h : I 0 t) (hs : ∀ k t x, x ∈ xs → k < xs.length → I k t → Ok (step t x) (I (k + 1))) (k : ∀ t, I xs.length t → Ok (f t) Q) : Ok ((loopF step t xs).bind f) Q := by
  obtain ⟨t1, e, h1⟩ := loopF_ok I xs 0 t h fun k t x hx hk _ hI => hs k t x hx (by omega) hI
  rw [e]
  exact k t1 (by rw [Nat.zero_add] at h1; exact h1)
theorem b_compM {γ δ : Type} {xs : List γ} {step : τ → γ → Option (Option δ × τ)} {t : τ} {f : List δ × τ → Option β} (R : δ → Prop) (hs : ∀ t x, x ∈ xs → Ok (step t x) fun p => ∃ y t', p = (some y, t') ∧ R y) (k : ∀ ys t, ys.length = xs.length → (∀ y ∈ ys, R y) → Ok (f (ys, t)) Q) : Ok ((compM step t xs).bind f) Q := by
  obtain ⟨ys, t1, e, hl, hy⟩ := compM_all R xs t fun t x hx => by
    obtain ⟨p, e, y, t', rfl, h2⟩ := hs t x hx
    exact ⟨y, t', e, h2⟩
  rw [e]
  exact k ys t1 hl hy
/-- a comprehension that may drop -/
theorem b_compD {γ δ : Type} {xs : List γ} {step : τ → γ → Option (Option δ × τ)} {t : τ} {f : List δ × τ → Option β} (R : δ → Prop) (hs : ∀ t x, x ∈ xs → Ok (step t x) fun p => ∀ y, p.1 = some y → R y) (k : ∀ ys t, ys.length ≤ xs.length → (∀ y ∈ ys, R y) → Ok (f (ys, t)) Q) : Ok ((compM step t xs).bind f) Q := by
  obtain ⟨ys, t1, e, _, hl, hy⟩ := compM_ok (fun _ => True) (fun _ => R) xs t trivial fun t x hx _ => by
    obtain ⟨p, e, h2⟩ := hs t x hx
    exact ⟨p.1, p.2, e, trivial, h2⟩
  rw [e]
  exact k ys t1 hl fun y hy2 => by obtain ⟨_, _, r⟩ := hy y hy2; exact r
theorem b_outC {t : τ} {kr : ρ → Option β} {kn : τ → Option β} (h : Ok (kn t) Q) : Ok (outC (.nx t) kr kn) Q := h
theorem b_draws {script : List Int} {n : Int} {f : List Int → Option β} (h : 0 ≤ n) (h2 : n ≤ 100000) (k : ∀ ds, Ok (f ds) Q) : Ok ((m__law_draws script n).bind f) Q := by
  obtain ⟨ds, e⟩ := draws_ok script n h h2
  rw [e]
  exact k ds
/-- a while loop by a measure -/
theorem whileF_ok {cond : τ → Option Bool} {step : τ → Option (Out Empty τ)} (I : τ → Prop) (m : τ → Nat) (hs : ∀ t, I t → (cond t = some false) ∨ (cond t = some true ∧ ∃ t', step t = some (.nx t') ∧ I t' ∧ m t' < m t)) : ∀ (fuel : Nat) (t : τ), I t → m t < fuel → ∃ t1, whileF cond step fuel t = some t1 ∧ I t1 ∧ cond t1 = some false
  | 0, t, _, h => absurd h (Nat.not_lt_zero _)
  | n + 1, t, hI, h => by
    rcases hs t hI with e | ⟨e, t', e2, hI', hm⟩
    · exact ⟨t, by unfold whileF whileM; rw [e], hI, e⟩
    · obtain ⟨t1, h1, h2⟩ := whileF_ok I m hs n t' hI' (by omega)
      refine ⟨t1, ?_, h2⟩
      rw [← h1]
      unfold whileF
      rw [whileM, e]
      simp only [e2]
theorem b_while {cond : τ → Option Bool} {step : τ → Option (Out Empty τ)} {fuel : Nat} {t : τ} {f : τ → Option β} (I : τ → Prop) (m : τ → Nat) (h0 : I t) (hf : m t < fuel) (hs : ∀ t, I t → (cond t = some false) ∨ (cond t = some true ∧ ∃ t', step t = some (.nx t') ∧ I t' ∧ m t' < m t)) (k : ∀ t, I t → cond t = some false → Ok (f t) Q) : Ok ((whileF cond step fuel t).bind f) Q := by
  obtain ⟨t1, e, h1, h2⟩ := whileF_ok I m hs fuel t h0 hf
  rw [e]
  exact k t1 h1 h2
theorem ok_get {P : α → Prop} (h : Ok o P) : ∃ a, o = some a ∧ P a := h
end
theorem ndec {p : Prop} [Decidable p] (h : p) : (!decide p) = false := by simp [h]
theorem ndecT {b : Bool} (h : b = true) : (!b) = false := by rw [h]; rfl
theorem ndecB {b : Bool} (h : b = true) : (!decide (b = true)) = false := by rw [h]; rfl
theorem ndecE {α : Type} [DecidableEq α] {a b : α} (h : a = b) : (!decide (a = b)) = false := by simp [h]
theorem cut_tail {α : Type} (xs : List α) : cutL xs (some 1) none = xs.drop 1 := by
  cases xs with
  | nil => rfl
  | cons x xs =>
    unfold cutL
    rw [HT.sIx_none, show HT.sIx (x :: xs).length 0 (some 1) = min 1 (x :: xs).length from HT.sIx_nat _ _ 1, List.length_cons, Nat.min_eq_left (by omega)]
    simp
theorem atI_zero {α : Type} {x : α} {xs : List α} : atI (x :: xs) 0 = some x := atI_at (Int.le_refl _) (by rw [List.length_cons]; omega)
/-- ints sorted, as the kernel can do it -/
def insI (x : Int) : List Int → List Int
  | [] => [x]
  | y :: ys => if y < x then y :: insI x ys else x :: y :: ys
def isI : List Int → List Int
  | [] => []
  | x :: xs => insI x (isI xs)
theorem sortE_I (xs : List Int) : sortE xs = isI xs := by
  rw [sortE_ins]
  have h : ∀ (x : Int) (ys : List Int), insE x ys = insI x ys := fun x ys => by
    induction ys with
    | nil => rfl
    | cons y ys ih => unfold insE insI; rw [ih, ltE_int]; by_cases q : y < x <;> simp [q]
  induction xs with
  | nil => rfl
  | cons x xs ih => unfold isortE isI; rw [ih, h]
theorem b_cell {β : Type} {Q : β → Prop} {script ds : List Int} {f : Int × List Int → Option β} (k : ∀ v ds', Ok (f (v, ds')) Q) : Ok ((m__law_cell script ds).bind f) Q := by
  obtain ⟨v, ds', e⟩ := cell_ok script ds
  rw [e]
  exact k v ds'
/-! ### counting in ranges -/
theorem rng_nil {lo hi : Int} (h : hi ≤ lo) : rng lo hi = [] := by
  unfold rng
  rw [show (hi - lo).toNat = 0 by omega]
  rfl
theorem rng_cons {lo hi : Int} (h : lo < hi) : rng lo hi = lo :: rng (lo + 1) hi := by
  unfold rng
  rw [show (hi - lo).toNat = (hi - (lo + 1)).toNat + 1 by omega, List.range_succ_eq_map, List.map_cons, List.map_map]
  congr 1
  · simp
  · refine List.map_congr_left fun i _ => ?_
    simp only [Function.comp, Nat.succ_eq_add_one]
    omega
theorem rng_snoc {lo hi : Int} (h : lo ≤ hi) : rng lo (hi + 1) = rng lo hi ++ [hi] := by
  unfold rng
  rw [show (hi + 1 - lo).toNat = (hi - lo).toNat + 1 by omega, List.range_succ, List.map_append, List.map_cons, List.map_nil]
  congr 2
  omega
theorem rng_app {lo mid hi : Int} (h : lo ≤ mid) (h2 : mid ≤ hi) : rng lo hi = rng lo mid ++ rng mid hi := by
  have : ∀ n : Nat, ∀ lo : Int, (mid - lo).toNat = n → lo ≤ mid → rng lo hi = rng lo mid ++ rng mid hi := by
    intro n
    induction n with
    | zero =>
      intro lo e h
      obtain rfl : lo = mid := by omega
      rw [rng_nil (Int.le_refl _)]; rfl
    | succ n ih =>
      intro lo e h
      rw [rng_cons (show lo < hi by omega), rng_cons (show lo < mid by omega), ih (lo + 1) (by omega) (by omega)]
      rfl
  exact this _ lo rfl h
theorem rng_nodup (lo hi : Int) : (rng lo hi).Nodup := by
  unfold rng
  exact List.pairwise_map.mpr (List.nodup_range.imp fun h e => h (by omega))
theorem rng_sorted (lo hi : Int) : (rng lo hi).Pairwise (· < ·) := by
  unfold rng
  exact List.pairwise_map.mpr (List.pairwise_lt_range.imp fun h => by omega)
/-- the items of a range that stand in a list without two alike -/
theorem rng_in_count {lo hi : Int} {b : List Int} (nd : b.Nodup) : ((rng lo hi).filter fun n => decide (n ∈ b)).length = (b.filter fun n => decide (lo ≤ n ∧ n < hi)).length := by
  refine List.Perm.length_eq ((List.perm_ext_iff_of_nodup ((rng_nodup lo hi).filter _) (nd.filter _)).mpr fun x => ?_)
  rw [List.mem_filter, List.mem_filter, rng_mem]
  simp only [decide_eq_true_eq]
  exact And.comm
theorem filter_two {α : Type} (p : α → Bool) : ∀ xs : List α, (xs.filter p).length + (xs.filter fun x => !p x).length = xs.length
  | [] => rfl
  | x :: xs => by
    have ih := filter_two p xs
    rw [List.filter_cons, List.filter_cons]
    by_cases h : p x = true
    · simp [h]; omega
    · simp [h]; omega
theorem rng_out_count {lo hi : Int} {b : List Int} (nd : b.Nodup) (h : lo ≤ hi) : (((rng lo hi).filter fun n => !decide (n ∈ b)).length : Int) = hi - lo - ((b.filter fun n => decide (lo ≤ n ∧ n < hi)).length : Int) := by
  have h1 := filter_two (fun n => decide (n ∈ b)) (rng lo hi)
  rw [rng_in_count nd, rng_len] at h1
  omega
theorem filter_len_mono {α : Type} {p q : α → Bool} {xs : List α} (h : ∀ x ∈ xs, p x = true → q x = true) : (xs.filter p).length ≤ (xs.filter q).length := by
  induction xs with
  | nil => exact Nat.le_refl _
  | cons x xs ih =>
    have ih := ih fun y hy => h y (List.mem_cons_of_mem _ hy)
    rw [List.filter_cons, List.filter_cons]
    by_cases hp : p x = true
    · have hq := h x List.mem_cons_self hp
      simp [hp, hq]; exact ih
    · by_cases hq : q x = true
      · simp [hp, hq]; omega
      · simp [hp, hq]; exact ih
theorem setE_len {α : Type} [DecidableEq α] [Enc α] : ∀ xs : List α, (setE xs).length ≤ xs.length
  | [] => Nat.le_refl _
  | x :: xs => by
    unfold setE
    have := setE_len xs
    split
    · rw [List.length_cons]; omega
    · rw [List.length_cons, List.length_cons]; omega
theorem filt_map_id {α : Type} {p : α → Bool} {xs : List α} : (xs.filter p).map (fun x => x) = xs.filter p := List.map_id' _
/-! loops told by what they have walked -/
theorem b_loopMp {β γ τ ρ : Type} {Q : β → Prop} {xs : List γ} {step : τ → γ → Option (Out ρ τ)} {t : τ} {f : Out ρ τ → Option β} (I : List γ → τ → Prop) (h : I [] t) (hs : ∀ ps t x qs, xs = ps ++ x :: qs → I ps t → Ok (step t x) fun o => ∃ t', o = .nx t' ∧ I (ps ++ [x]) t') (k : ∀ t, I xs t → Ok (f (.nx t)) Q) : Ok ((loopM step t xs).bind f) Q := by
  have : ∀ (qs ps : List γ) (t : τ), xs = ps ++ qs → I ps t → ∃ t1, loopM step t qs = some (.nx t1) ∧ I xs t1 := by
    intro qs
    induction qs with
    | nil => intro ps t e h; rw [List.append_nil] at e; exact ⟨t, rfl, e ▸ h⟩
    | cons x qs ih =>
      intro ps t e h
      obtain ⟨o, e2, t', rfl, h2⟩ := hs ps t x qs e h
      obtain ⟨t1, e3, h3⟩ := ih (ps ++ [x]) t' (by rw [e]; simp) h2
      exact ⟨t1, by unfold loopM; rw [e2]; exact e3, h3⟩
  obtain ⟨t1, e, h1⟩ := this xs [] t rfl h
  rw [e]
  exact k t1 h1
theorem b_loopFp {β γ τ : Type} {Q : β → Prop} {xs : List γ} {step : τ → γ → Option τ} {t : τ} {f : τ → Option β} (I : List γ → τ → Prop) (h : I [] t) (hs : ∀ ps t x qs, xs = ps ++ x :: qs → I ps t → Ok (step t x) fun t' => I (ps ++ [x]) t') (k : ∀ t, I xs t → Ok (f t) Q) : Ok ((loopF step t xs).bind f) Q := by
  have : ∀ (qs ps : List γ) (t : τ), xs = ps ++ qs → I ps t → ∃ t1, loopF step t qs = some t1 ∧ I xs t1 := by
    intro qs
    induction qs with
    | nil => intro ps t e h; rw [List.append_nil] at e; exact ⟨t, rfl, e ▸ h⟩
    | cons x qs ih =>
      intro ps t e h
      obtain ⟨t', e2, h2⟩ := hs ps t x qs e h
      obtain ⟨t1, e3, h3⟩ := ih (ps ++ [x]) t' (by rw [e]; simp) h2
      exact ⟨t1, by unfold loopF; rw [e2]; exact e3, h3⟩
  obtain ⟨t1, e, h1⟩ := this xs [] t rfl h
  rw [e]
  exact k t1 h1
/-- the item of a range, by what was walked before it -/
theorem rng_split {lo hi x : Int} {ps qs : List Int} (e : rng lo hi = ps ++ x :: qs) : x = lo + ps.length := by
  have h : (rng lo hi)[ps.length]? = some x := by rw [e, List.getElem?_append_right (Nat.le_refl _), Nat.sub_self]; rfl
  unfold rng at h
  rw [List.getElem?_map] at h
  cases q : (List.range (hi - lo).toNat)[ps.length]? with
  | none => rw [q] at h; cases h
  | some j =>
    rw [q] at h
    obtain ⟨a, b⟩ := List.getElem?_eq_some_iff.mp q
    rw [List.getElem_range] at b
    have h := Option.some.inj h
    subst b
    exact h.symm
theorem loopF_fold {α τ : Type} {step : τ → α → Option τ} {g : τ → α → τ} : ∀ (xs : List α) (t : τ), (∀ t x, x ∈ xs → step t x = some (g t x)) → loopF step t xs = some (xs.foldl g t)
  | [], _, _ => rfl
  | x :: xs, t, h => by
    unfold loopF
    rw [h t x List.mem_cons_self]
    exact loopF_fold xs _ fun t y hy => h t y (List.mem_cons_of_mem _ hy)
theorem loopM_find {α ρ : Type} {step : Unit → α → Option (Out ρ Unit)} {c : α → Bool} {g : α → ρ} : ∀ (xs : List α), (∀ x ∈ xs, step () x = some (if c x = true then .ret (g x) else .nx ())) → loopM step () xs = some (match xs.find? c with | some x => .ret (g x) | none => .nx ())
  | [], _ => rfl
  | x :: xs, h => by
    unfold loopM
    rw [h x List.mem_cons_self]
    by_cases q : c x = true
    · simp only [q, if_true, List.find?_cons]
    · have q : c x = false := by simpa using q
      rw [List.find?_cons, q]
      exact loopM_find xs fun y hy => h y (List.mem_cons_of_mem _ hy)
/-- a comprehension that may drop: what it keeps stands in its order -/
theorem b_compS {α β τ : Type} {Q : β → Prop} {xs : List α} {step : τ → α → Option (Option α × τ)} {t : τ} {f : List α × τ → Option β} (hs : ∀ t x, x ∈ xs → Ok (step t x) fun p => ∀ y, p.1 = some y → y = x) (k : ∀ ys t, ys.Sublist xs → Ok (f (ys, t)) Q) : Ok ((compM step t xs).bind f) Q := by
  have : ∀ (xs : List α) (t : τ), (∀ t x, x ∈ xs → Ok (step t x) fun p => ∀ y, p.1 = some y → y = x) → ∃ ys t1, compM step t xs = some (ys, t1) ∧ ys.Sublist xs := by
    intro xs
    induction xs with
    | nil => intro t _; exact ⟨[], t, rfl, .slnil⟩
    | cons x xs ih =>
      intro t h
      obtain ⟨⟨o, t'⟩, e, h2⟩ := h t x List.mem_cons_self
      obtain ⟨ys, t1, e1, h1⟩ := ih t' fun t y hy => h t y (List.mem_cons_of_mem _ hy)
      refine ⟨consO o ys, t1, by unfold compM; rw [e]; simp only [e1], ?_⟩
      cases o with
      | none => exact .cons _ h1
      | some y =>
        obtain rfl := h2 y rfl
        exact .cons_cons _ h1
  obtain ⟨ys, t1, e, h⟩ := this xs t hs
  rw [e]
  exact k ys t1 h
/-! ### dicts, plainly -/
section
variable {κ α : Type} [DecidableEq κ]
theorem mem_keys {d : List (κ × α)} {k : κ} : k ∈ d.map (·.1) ↔ (getG d k).isSome = true := by
  induction d with
  | nil => simp [getG_nil]
  | cons p r ih =>
    rw [getG_cons, List.map_cons, List.mem_cons, ih]
    by_cases h : p.1 = k
    · simp [h]
    · have : ¬ k = p.1 := fun z => h z.symm
      simp [h, this]
theorem putG_keys {d : List (κ × α)} {k : κ} {v : α} : (putG d k v).map (·.1) = if k ∈ d.map (·.1) then d.map (·.1) else d.map (·.1) ++ [k] := by
  unfold putG
  have e : (d.any fun p => decide (p.1 = k)) = true ↔ k ∈ d.map (·.1) := by simp
  by_cases h : k ∈ d.map (·.1)
  · rw [if_pos (e.mpr h), if_pos h, List.map_map]
    refine List.map_congr_left fun p _ => ?_
    by_cases hp : p.1 = k <;> simp [hp]
  · rw [if_neg (fun z => h (e.mp z)), if_neg h]
    simp
theorem putG_nodup {d : List (κ × α)} {k : κ} {v : α} (h : (d.map (·.1)).Nodup) : ((putG d k v).map (·.1)).Nodup := by
  rw [putG_keys]
  split
  · exact h
  · rename_i hk
    rw [List.nodup_append]
    exact ⟨h, by simp, fun a ha b hb => by
      simp at hb
      subst hb
      exact fun z => hk (by rw [← z]; exact ha)⟩
theorem getG_snoc {d : List (κ × α)} {k j : κ} {v : α} (h : ¬ k ∈ d.map (·.1)) : getG (d ++ [(k, v)]) j = if k = j then some v else getG d j := by
  induction d with
  | nil => rw [List.nil_append, getG_cons, getG_nil]
  | cons p r ih =>
    rw [List.map_cons, List.mem_cons] at h
    rw [List.cons_append, getG_cons, getG_cons, ih fun z => h (.inr z)]
    by_cases hp : p.1 = j
    · have : ¬ k = j := fun z => h (.inl (z.trans hp.symm))
      simp [hp, this]
    · simp [hp]
theorem getG_upd {d : List (κ × α)} {k j : κ} {v : α} : getG (d.map fun p => if p.1 = k then (p.1, v) else p) j = if k = j then (if k ∈ d.map (·.1) then some v else none) else getG d j := by
  induction d with
  | nil => simp [getG_nil]
  | cons p r ih =>
    rw [List.map_cons, getG_cons, ih, getG_cons, List.map_cons]
    by_cases hp : p.1 = k
    · by_cases hj : k = j
      · subst hp; simp [hj]
      · have : ¬ p.1 = j := fun z => hj (hp.symm.trans z)
        simp [hp, hj]
    · by_cases hj : k = j
      · subst hj
        have : ¬ k = p.1 := fun z => hp z.symm
        rw [if_pos rfl, if_pos rfl]
        simp only [List.mem_cons, this, false_or]
        simp [hp]
      · simp [hp, hj]
theorem getG_put {d : List (κ × α)} {k j : κ} {v : α} : getG (putG d k v) j = if k = j then some v else getG d j := by
  unfold putG
  have e : (d.any fun p => decide (p.1 = k)) = true ↔ k ∈ d.map (·.1) := by simp
  by_cases h : k ∈ d.map (·.1)
  · rw [if_pos (e.mpr h), getG_upd]
    simp [h]
  · rw [if_neg (fun z => h (e.mp z)), getG_snoc h]
theorem putG_len_eq {d : List (κ × α)} {k : κ} {v : α} : (putG d k v).length = ((putG d k v).map (·.1)).length := by rw [List.length_map]
theorem ofP_nodup (ps : List (κ × α)) : ((ofP ps).map (·.1)).Nodup := by
  have : ∀ (ps d : List (κ × α)), (d.map (·.1)).Nodup → ((ps.foldl (fun d p => putG d p.1 p.2) d).map (·.1)).Nodup := by
    intro ps
    induction ps with
    | nil => intro d h; exact h
    | cons p ps ih => intro d h; exact ih _ (putG_nodup h)
  exact this ps [] (by simp)
/-- dicts that answer alike have as many keys, and as many of a kind -/
theorem same_keys {d1 d2 : List (κ × α)} (h1 : (d1.map (·.1)).Nodup) (h2 : (d2.map (·.1)).Nodup) (h : ∀ k, getG d1 k = getG d2 k) : (d1.map (·.1)).Perm (d2.map (·.1)) :=
  (List.perm_ext_iff_of_nodup h1 h2).mpr fun k => by rw [mem_keys, mem_keys, h]
end
/-! ### sorted lists of whole numbers -/
theorem sorted_eq {xs ys : List Int} (h : xs.Pairwise (· < ·)) (h2 : ys.Pairwise (· < ·)) (hm : ∀ n, n ∈ xs ↔ n ∈ ys) : xs = ys := by
  have a := sortSet_one (xs := ys) (ys := xs) hm (h.imp fun q => by simpa using q)
  have b := sortSet_one (xs := ys) (ys := ys) (fun _ => Iff.rfl) (h2.imp fun q => by simpa using q)
  exact a.symm.trans b
theorem sort_lt {xs : List Int} (nd : xs.Nodup) : (sortE xs).Pairwise (· < ·) := by
  have nd2 : (sortE xs).Nodup := (sortE_perm _).nodup_iff.mpr nd
  refine ((sortE_sorted xs).and nd2).imp fun {a b} ⟨h1, h2⟩ => ?_
  have : a ≤ b := by simpa using h1
  omega
theorem sort_as {X Y : List Int} (nd : X.Nodup) (hY : Y.Pairwise (· < ·)) (h : ∀ x, x ∈ X ↔ x ∈ Y) : sortE X = Y :=
  sorted_eq (sort_lt nd) hY fun x => by rw [sortE_mem, h]
/-! ### all sets -/
def subStep (acc : List (List Int)) (x : Int) : List (List Int) := acc ++ acc.map fun s => s ++ [x]
def subs (t : List Int) : List (List Int) := t.foldl subStep [[]]
theorem subs_mem_aux : ∀ (t : List Int) (acc : List (List Int)) (z : List Int), z ∈ t.foldl subStep acc ↔ ∃ a ∈ acc, ∃ s, s.Sublist t ∧ z = a ++ s
  | [], acc, z => by
    constructor
    · intro h; exact ⟨z, h, [], .slnil, by simp⟩
    · rintro ⟨a, ha, s, hs, rfl⟩
      rw [List.sublist_nil.mp hs, List.append_nil]; exact ha
  | x :: t, acc, z => by
    rw [List.foldl_cons, subs_mem_aux t]
    unfold subStep
    constructor
    · rintro ⟨a, ha, s, hs, rfl⟩
      rcases List.mem_append.mp ha with h | h
      · exact ⟨a, h, s, .cons _ hs, rfl⟩
      · obtain ⟨b, hb, rfl⟩ := List.mem_map.mp h
        exact ⟨b, hb, x :: s, .cons_cons _ hs, by simp⟩
    · rintro ⟨a, ha, s, hs, rfl⟩
      cases hs with
      | cons _ h => exact ⟨a, List.mem_append_left _ ha, s, h, rfl⟩
      | cons_cons _ h => exact ⟨a ++ [x], List.mem_append_right _ (List.mem_map.mpr ⟨a, ha, rfl⟩), _, h, by simp⟩
theorem subs_mem {t z : List Int} : z ∈ subs t ↔ z.Sublist t := by
  unfold subs
  rw [subs_mem_aux]
  constructor
  · rintro ⟨a, ha, s, hs, rfl⟩
    rw [List.mem_singleton.mp ha]; exact hs
  · intro h; exact ⟨[], List.mem_singleton.mpr rfl, z, h, rfl⟩
theorem subs_loop {step : List (List Int) → Int → Option (List (List Int))} (hs : ∀ acc x, acc.length ≤ 2 ^ 19 → (∀ s ∈ acc, s.length ≤ 20) → step acc x = some (subStep acc x)) : ∀ (t : List Int) (j : Nat) (acc : List (List Int)), j + t.length ≤ 20 → acc.length ≤ 2 ^ j → (∀ s ∈ acc, s.length ≤ j) → loopF step acc t = some (t.foldl subStep acc)
  | [], _, _, _, _, _ => rfl
  | x :: t, j, acc, h1, h2, h3 => by
    rw [List.length_cons] at h1
    have hj : 2 ^ j ≤ 2 ^ 19 := Nat.pow_le_pow_right (by omega) (by omega)
    unfold loopF
    rw [hs acc x (by omega) fun s q => by have := h3 s q; omega]
    refine subs_loop hs t (j + 1) _ (by omega) ?_ fun s q => ?_
    · unfold subStep
      rw [List.length_append, List.length_map, Nat.pow_succ]; omega
    · unfold subStep at q
      rcases List.mem_append.mp q with q | q
      · have := h3 s q; omega
      · obtain ⟨b, hb, rfl⟩ := List.mem_map.mp q
        have := h3 b hb
        rw [List.length_append, List.length_singleton]; omega
theorem subs_step (acc : List (List Int)) (x : Int) (h1 : acc.length ≤ 2 ^ 19) (h2 : ∀ s ∈ acc, s.length ≤ 20) : ((compO (fun (x4 : (List Int)) => (((chkN (x4.length + ([x] : (List Int)).length)).bind fun u5 => some (some (x4 ++ ([x] : (List Int))))) : Option (Option (List Int)))) acc).bind fun l6 => (chkN (acc.length + l6.length)).bind fun u7 => some (acc ++ l6) : Option (List (List Int))) = some (subStep acc x) := by
  rw [compO_filter (cd := fun _ => true) (el := fun s => s ++ [x]) acc fun s hs => by rw [chkN_some (by have := h2 s hs; rw [List.length_singleton]; omega), if_pos rfl]; rfl]
  rw [filt_true, Option.bind_some, chkN_some (by rw [List.length_map]; omega)]; rfl
theorem rowsum_lt {acc : List (List Int)} {n : Nat} (h : n ≤ 20) : 2 ^ n ≤ 1048576 := Nat.pow_le_pow_right (n := 2) (by omega) h
theorem subs_len (t : List Int) : (subs t).length = 2 ^ t.length := by
  have : ∀ (t : List Int) (acc : List (List Int)), (t.foldl subStep acc).length = acc.length * 2 ^ t.length := by
    intro t
    induction t with
    | nil => intro acc; simp
    | cons x t ih =>
      intro acc
      rw [List.foldl_cons, ih, List.length_cons, Nat.pow_succ]
      unfold subStep
      rw [List.length_append, List.length_map, Nat.add_mul]
      have : acc.length * (2 ^ t.length * 2) = acc.length * 2 ^ t.length * 2 := by rw [Nat.mul_assoc]
      omega
  unfold subs
  rw [this]; simp
/-! more of Ok -/
theorem ok_bs {α : Type} {o : Option α} {Q : α → Prop} (h : Ok (o.bind some) Q) : Ok o Q := by
  cases o with
  | none => exact h
  | some a => exact h
/-- a loop that leaves at the first item of a kind -/
theorem loopM_fst {α τ ρ : Type} {step : τ → α → Option (Out ρ τ)} {c : α → Bool} {g : α → ρ} {xs : List α} {t : τ} (I : List α → τ → Prop) (h : I [] t) (hs : ∀ ps t x qs, xs = ps ++ x :: qs → I ps t → ∃ t', step t x = some (if c x = true then .ret (g x) else .nx t') ∧ (c x = false → I (ps ++ [x]) t')) :
    (∀ x, xs.find? c = some x → loopM step t xs = some (.ret (g x))) ∧ (xs.find? c = none → ∃ t1, I xs t1 ∧ loopM step t xs = some (.nx t1)) := by
  have : ∀ (qs ps : List α) (t : τ), xs = ps ++ qs → I ps t → (∀ x, qs.find? c = some x → loopM step t qs = some (.ret (g x))) ∧ (qs.find? c = none → ∃ t1, I xs t1 ∧ loopM step t qs = some (.nx t1)) := by
    intro qs
    induction qs with
    | nil => intro ps t e h; rw [List.append_nil] at e; exact ⟨fun x q => (by cases q), fun _ => ⟨t, e ▸ h, rfl⟩⟩
    | cons x qs ih =>
      intro ps t e h
      obtain ⟨t', e2, h2⟩ := hs ps t x qs e h
      rw [List.find?_cons]
      unfold loopM
      rw [e2]
      by_cases q : c x = true
      · rw [q]; exact ⟨fun y hy => (by cases hy; rfl), fun z => (by cases z)⟩
      · have q : c x = false := by simpa using q
        have i := ih (ps ++ [x]) t' (by rw [e]; simp) (h2 q)
        rw [q]; exact i
  exact this xs [] t rfl h
theorem loopM_map {α β τ ρ : Type} {step : τ → β → Option (Out ρ τ)} {g : α → β} : ∀ (xs : List α) (t : τ), loopM step t (xs.map g) = loopM (fun t x => step t (g x)) t xs
  | [], _ => rfl
  | x :: xs, t => by
    rw [List.map_cons]
    unfold loopM
    cases step t (g x) with
    | none => rfl
    | some o => cases o with
      | nx t' => exact loopM_map xs t'
      | bk t' => rfl
      | ret r => rfl
theorem bind_eq {α β : Type} {x : Option α} {f : α → Option β} {a : α} {r : Option β} (h : x = some a) (k : f a = r) : x.bind f = r := by rw [h]; exact k
theorem som_if {α : Type} {c : Bool} {x : α} : (if c = true then some (some x) else some none) = some (if c = true then some x else none) := by cases c <;> rfl
/-! ### briefs: worths and lengths -/
theorem fold_has {κ α : Type} [DecidableEq κ] : ∀ (ps d : List (κ × α)) (k : κ), (getG (ps.foldl (fun d p => putG d p.1 p.2) d) k).isSome = ((getG d k).isSome || decide (k ∈ ps.map (·.1)))
  | [], d, k => by simp
  | p :: ps, d, k => by
    rw [List.foldl_cons, fold_has ps, getG_put, List.map_cons]
    by_cases h : p.1 = k
    · subst h; simp
    · rw [if_neg h]
      have : (k ∈ p.1 :: ps.map (·.1)) ↔ k ∈ ps.map (·.1) := by
        rw [List.mem_cons]; exact ⟨fun q => q.elim (fun e => absurd e.symm h) id, .inr⟩
      rw [decide_eq_decide.mpr this]
theorem ofP_has {κ α : Type} [DecidableEq κ] (ps : List (κ × α)) (k : κ) : (getG (ofP ps) k).isSome = decide (k ∈ ps.map (·.1)) := by
  unfold ofP
  rw [fold_has]; rfl
def sen (S : List (List Str)) (k : Int) : List Str := S.getD k.toNat []
def wds (S : List (List Str)) (r : List Int) : List Str := r.flatMap (sen S)
def wr (S : List (List Str)) (T : List (T2 Str Int)) (r : List Int) : Int := ((T.filter fun x => decide (x.a ∈ wds S r)).map fun x => x.b).sum
def lg (S : List (List Str)) (r : List Int) : Int := (r.map fun k => ((sen S k).length : Int)).sum
def InS (S : List (List Str)) (r : List Int) : Prop := ∀ k ∈ r, 0 ≤ k ∧ k < (S.length : Int)
structure Ts (S : List (List Str)) : Prop where
  n : S.length ≤ 10
  w : ∀ s ∈ S, s.length ≤ 6
theorem sen_at {S : List (List Str)} {k : Int} (h : 0 ≤ k ∧ k < (S.length : Int)) : atI S k = some (sen S k) := by
  rw [atI_at h.1 h.2]
  unfold sen
  rw [List.getD_eq_getElem?_getD, List.getElem?_eq_getElem (by omega)]; rfl
theorem sen_len {S : List (List Str)} (hS : Ts S) (k : Int) : (sen S k).length ≤ 6 := by
  unfold sen
  rw [List.getD_eq_getElem?_getD]
  by_cases h : k.toNat < S.length
  · rw [List.getElem?_eq_getElem h]; exact hS.w _ (List.getElem_mem _)
  · rw [List.getElem?_eq_none (by omega)]; exact Nat.zero_le _
theorem wds_len {S : List (List Str)} (hS : Ts S) : ∀ r : List Int, (wds S r).length ≤ 6 * r.length
  | [] => Nat.zero_le _
  | k :: r => by
    have := wds_len hS r
    have := sen_len hS k
    show (sen S k ++ wds S r).length ≤ _
    rw [List.length_append, List.length_cons]; omega
theorem wds_mem {S : List (List Str)} {r : List Int} {w : Str} : w ∈ wds S r ↔ ∃ k ∈ r, w ∈ sen S k := List.mem_flatMap
theorem wr_mono {S : List (List Str)} {T : List (T2 Str Int)} (hT : ∀ x ∈ T, 0 ≤ x.b) {r z : List Int} (h : ∀ k ∈ r, k ∈ z) : wr S T r ≤ wr S T z := by
  unfold wr
  induction T with
  | nil => exact Int.le_refl _
  | cons x T ih =>
    have ih := ih fun y hy => hT y (List.mem_cons_of_mem _ hy)
    have hx := hT x List.mem_cons_self
    have hm : x.a ∈ wds S r → x.a ∈ wds S z := fun q => by
      obtain ⟨k, hk, hw⟩ := wds_mem.mp q
      exact wds_mem.mpr ⟨k, h k hk, hw⟩
    by_cases a : x.a ∈ wds S r
    · rw [List.filter_cons_of_pos (by simpa using a), List.filter_cons_of_pos (by simpa using hm a)]
      simp only [List.map_cons, List.sum_cons]; omega
    · rw [List.filter_cons_of_neg (by simpa using a)]
      by_cases b : x.a ∈ wds S z
      · rw [List.filter_cons_of_pos (by simpa using b)]
        simp only [List.map_cons, List.sum_cons]; omega
      · rw [List.filter_cons_of_neg (by simpa using b)]; exact ih
theorem wr_congr {S : List (List Str)} {T : List (T2 Str Int)} {r z : List Int} (h : ∀ k, k ∈ r ↔ k ∈ z) : wr S T r = wr S T z := by
  unfold wr
  congr 2
  refine List.filter_congr fun x _ => decide_eq_decide.mpr ?_
  rw [wds_mem, wds_mem]
  exact ⟨fun ⟨k, a, b⟩ => ⟨k, (h k).mp a, b⟩, fun ⟨k, a, b⟩ => ⟨k, (h k).mpr a, b⟩⟩
theorem wr_sub {S : List (List Str)} {T : List (T2 Str Int)} (hT : ∀ x ∈ T, 0 ≤ x.b) {r y z : List Int} (h : ∀ k ∈ r, k ∈ y ∨ k ∈ z) : wr S T r ≤ wr S T y + wr S T z := by
  unfold wr
  induction T with
  | nil => exact Int.le_refl _
  | cons x T ih =>
    have ih := ih fun y hy => hT y (List.mem_cons_of_mem _ hy)
    have hx := hT x List.mem_cons_self
    have hm : x.a ∈ wds S r → x.a ∈ wds S y ∨ x.a ∈ wds S z := fun q => by
      obtain ⟨k, hk, hw⟩ := wds_mem.mp q
      exact (h k hk).imp (fun q => wds_mem.mpr ⟨k, q, hw⟩) fun q => wds_mem.mpr ⟨k, q, hw⟩
    simp only [List.filter_cons]
    by_cases a : x.a ∈ wds S r <;> by_cases b : x.a ∈ wds S y <;> by_cases c : x.a ∈ wds S z <;> simp only [a, b, c, decide_true, decide_false, if_true, Bool.false_eq_true, if_false, List.map_cons, List.sum_cons] <;> first | omega | (exfalso; exact (hm a).elim b c)
theorem wr_scale {S : List (List Str)} {T : List (T2 Str Int)} (by_ : Int) (r : List Int) : wr S (T.map fun x => ⟨x.a, by_ * x.b⟩) r = by_ * wr S T r := by
  unfold wr
  induction T with
  | nil => simp
  | cons x T ih =>
    simp only [List.map_cons, List.filter_cons]
    by_cases a : x.a ∈ wds S r
    · simp only [a, decide_true, if_true, List.map_cons, List.sum_cons, ih, Int.mul_add]
    · simp only [a, decide_false, Bool.false_eq_true, if_false, ih]
theorem sum_perm {r z : List Int} (h : r.Perm z) : r.sum = z.sum := by
  induction h with
  | nil => rfl
  | cons x _ ih => rw [List.sum_cons, List.sum_cons, ih]
  | swap x y l => simp only [List.sum_cons]; omega
  | trans _ _ a b => exact a.trans b
theorem lg_perm {S : List (List Str)} {r z : List Int} (h : r.Perm z) : lg S r = lg S z := sum_perm (h.map _)
theorem lg_app (S : List (List Str)) (r z : List Int) : lg S (r ++ z) = lg S r + lg S z := by
  unfold lg
  rw [List.map_append, List.sum_append]
section
variable {S : List (List Str)} {T : List (T2 Str Int)} (hS : Ts S)
theorem flat_ok {r : List Int} (h : InS S r) : flatO (fun (x1 : Int) => (((atI S x1).bind fun v3 => compO (fun (x2 : Str) => (some (some ((x2, true) : (Str × Bool))) : Option (Option (Str × Bool)))) v3) : Option (List (Str × Bool)))) r = some ((wds S r).map fun w => (w, true)) := by
  induction r with
  | nil => rfl
  | cons k r ih =>
    unfold flatO
    rw [ih fun j hj => h j (List.mem_cons_of_mem _ hj), sen_at (h k List.mem_cons_self), Option.bind_some]
    rw [compO_filter (cd := fun _ => true) (el := fun w : Str => (w, true)) (sen S k) fun w _ => by rfl, filt_true]
    show some _ = some ((sen S k ++ wds S r).map _)
    rw [List.map_append]
include hS
theorem brief_ok {r : List Int} (h : InS S r) (hl : r.length ≤ 1000) : m_worth_of_brief S T r = some (wr S T r) := by
  unfold m_worth_of_brief
  have := wds_len hS r
  rw [flat_ok h, Option.bind_some, chkN_some (by rw [List.length_map]; omega), Option.bind_some, Option.bind_some]
  congr 1
  unfold wr
  congr 2
  refine List.filter_congr fun x _ => ?_
  rw [ofP_has, List.map_map, show ((fun x : Str × Bool => x.1) ∘ fun w => (w, true)) = id from rfl, List.map_id]
omit hS in
theorem words_ok {r : List Int} (h : InS S r) : m_words_in_brief S r = some (lg S r) := by
  unfold m_words_in_brief
  rw [compO_filter (cd := fun _ => true) (el := fun k : Int => ((sen S k).length : Int)) r fun k hk => by rw [sen_at (h k hk)]; rfl, filt_true]; rfl
omit hS in
theorem llong_ok {r : List Int} (h : InS S r) : m__law_long S r = some (lg S r) := words_ok h
omit hS in
theorem llong2_ok {r : List Int} (h : InS S r) : m__law_long_v2 S r = some (lg S r) := words_ok h
theorem lworth_ok {r : List Int} (h : InS S r) (hl : r.length ≤ 1000) : m__law_worth S T r = some (wr S T r) := by
  have key : Ok (m__law_worth S T r) fun v => v = wr S T r := by
    unfold m__law_worth
    refine b_loopFp (fun ps t => t = wds S ps) rfl (fun ps t k qs e i => ?_) fun t i => ok_some (by rw [i]; rfl)
    have hk := h k (by rw [e]; simp)
    have h1 := wds_len hS ps
    have h2 := sen_len hS k
    have h3 : ps.length ≤ r.length := by rw [e]; simp
    refine b_eq (sen_at hk) (b_chkN (by rw [i]; omega) (ok_some ?_))
    rw [i]
    unfold wds
    rw [List.flatMap_append]; simp
  obtain ⟨v, e, rfl⟩ := key
  exact e
theorem lworth2_ok {r : List Int} (h : InS S r) (hl : r.length ≤ 1000) : m__law_worth_v2 S T r = some (wr S T r) := lworth_ok hS h hl
end
/-! all sets -/
theorem sub_in {S : List (List Str)} {r : List Int} (h : r.Sublist (rng 0 (S.length : Int))) : InS S r := fun k hk => rng_mem.mp (h.subset hk)
theorem sub_l {S : List (List Str)} (hS : S.length ≤ 10) {r : List Int} (h : r.Sublist (rng 0 (S.length : Int))) : r.length ≤ 10 := by
  have := h.length_le
  rw [rng_len] at this; omega
def allS (n : Nat) : List (List Int) := subs (rng 0 (n : Int))
theorem allS_ok {n : Nat} (hn : n ≤ 10) : loopF (fun (t2 : (List (List Int))) (x3 : Int) =>
  ((compO (fun (x4 : (List Int)) => (((chkN (x4.length + ([x3] : (List Int)).length)).bind fun u5 => some (some (x4 ++ ([x3] : (List Int))))) : Option (Option (List Int)))) t2).bind fun l6 =>
  (chkN (t2.length + l6.length)).bind fun u7 =>
  some (t2 ++ l6) : Option (List (List Int)))) [[]] (rng 0 (n : Int)) = some (allS n) :=
  subs_loop (fun acc x h1 h2 => subs_step acc x h1 h2) (rng 0 (n : Int)) 0 [[]] (by rw [rng_len]; omega) (by decide) (fun s hs => by rw [List.mem_singleton.mp hs]; exact Nat.le_refl _)
theorem allsets_ok {n : Nat} (hn : n ≤ 10) : m_all_sets (n : Int) = some (allS n) := by
  unfold m_all_sets
  rw [Option.bind_some, allS_ok hn]; rfl
theorem allS_len (n : Nat) : (allS n).length = 2 ^ n := by
  unfold allS
  rw [subs_len, rng_len]; congr 1
/-! ### the best brief; the first sentences -/
theorem leT {a c : Int} {b d : List Int} : leE (⟨a, b⟩ : T2 Int (List Int)) ⟨c, d⟩ = true ↔ a < c ∨ (a = c ∧ leE b d = true) := by
  show (!ltE (⟨c, d⟩ : T2 Int (List Int)) ⟨a, b⟩) = true ↔ _
  rw [ltE_T2]
  by_cases h : c = a
  · subst h
    rw [if_pos rfl]
    show leE b d = true ↔ _
    exact ⟨fun q => .inr ⟨rfl, q⟩, fun q => q.elim (fun q => absurd q (Int.lt_irrefl _)) (·.2)⟩
  · rw [if_neg h, ltE_int]
    simp only [Bool.not_eq_true', decide_eq_false_iff_not]
    constructor
    · intro q; left; omega
    · rintro (q | ⟨q, _⟩) <;> omega
theorem leI {a c b d : Int} : leE (⟨a, b⟩ : T2 Int Int) ⟨c, d⟩ = true ↔ a < c ∨ (a = c ∧ b ≤ d) := by
  show (!ltE (⟨c, d⟩ : T2 Int Int) ⟨a, b⟩) = true ↔ _
  rw [ltE_T2]
  by_cases h : c = a
  · subst h
    rw [if_pos rfl, ltE_int]
    simp only [Bool.not_eq_true', decide_eq_false_iff_not]
    constructor
    · intro q; right; exact ⟨trivial, by omega⟩
    · rintro (q | ⟨_, q⟩) <;> omega
  · rw [if_neg h, ltE_int]
    simp only [Bool.not_eq_true', decide_eq_false_iff_not]
    constructor
    · intro q; left; omega
    · rintro (q | ⟨q, _⟩) <;> omega
def fitS (S : List (List Str)) (most : Int) : List (List Int) := (allS S.length).filter fun r => decide (lg S r ≤ most)
def rowB (S : List (List Str)) (T : List (T2 Str Int)) (r : List Int) : T2 Int (List Int) := ⟨-wr S T r, r⟩
theorem fit_mem {S : List (List Str)} {most : Int} {r : List Int} : r ∈ fitS S most ↔ r.Sublist (rng 0 (S.length : Int)) ∧ lg S r ≤ most := by
  unfold fitS allS
  rw [List.mem_filter, subs_mem, decide_eq_true_iff]
theorem fit_nil {S : List (List Str)} {most : Int} (h : 0 ≤ most) : [] ∈ fitS S most := fit_mem.mpr ⟨List.nil_sublist _, h⟩
/-- r is the best of those that fit -/
def BestR (S : List (List Str)) (T : List (T2 Str Int)) (most : Int) (r : List Int) : Prop := r ∈ fitS S most ∧ ∀ z ∈ fitS S most, wr S T z < wr S T r ∨ (wr S T z = wr S T r ∧ leE r z = true)
theorem best_one {S : List (List Str)} {T : List (T2 Str Int)} {most : Int} {r z : List Int} (h : BestR S T most r) (k : BestR S T most z) : r = z := by
  rcases h.2 z k.1 with a | ⟨a, b⟩
  · rcases k.2 r h.1 with c | ⟨c, _⟩ <;> omega
  · rcases k.2 r h.1 with c | ⟨c, d⟩
    · omega
    · exact leE_anti b d
theorem best_min94 {S : List (List Str)} {T : List (T2 Str Int)} {most : Int} {v : T2 Int (List Int)} (h : minE ((fitS S most).map (rowB S T)) = some v) : BestR S T most v.b ∧ v = rowB S T v.b := by
  obtain ⟨h1, h2⟩ := minE_spec h
  obtain ⟨r, hr, rfl⟩ := List.mem_map.mp h1
  refine ⟨⟨hr, fun z hz => ?_⟩, rfl⟩
  have := leT.mp (h2 _ (List.mem_map.mpr ⟨z, hz, rfl⟩))
  show wr S T z < wr S T r ∨ _
  rcases this with q | ⟨q, q2⟩
  · left; omega
  · right; exact ⟨by show wr S T z = wr S T r; omega, q2⟩
section
variable {S : List (List Str)} {T : List (T2 Str Int)} (hS : Ts S) {most : Int}
include hS
theorem best_ok (h0 : 0 ≤ most) : ∃ r, BestR S T most r ∧ m_best_brief S T most = some ⟨wr S T r, r⟩ := by
  have hn := hS.n
  have key : Ok (m_best_brief S T most) fun v => ∃ r, BestR S T most r ∧ v = ⟨wr S T r, r⟩ := by
    unfold m_best_brief
    refine b_eq (allsets_ok hn) (b_loopFp (fun ps t => t = (ps.filter fun r => decide (lg S r ≤ most)).map (rowB S T)) rfl (fun ps t r qs e i => ?_) fun t i => ?_)
    · have hr : r ∈ allS S.length := by rw [e]; simp
      have hsub := subs_mem.mp hr
      have hl := sub_l hn hsub
      have ht : t.length ≤ 1024 := by
        rw [i, List.length_map]
        refine Nat.le_trans (List.length_filter_le _ _) ?_
        have h1 : ps.length ≤ (allS S.length).length := by rw [e]; simp
        rw [allS_len] at h1
        exact Nat.le_trans h1 (Nat.pow_le_pow_right (by omega) hn)
      refine b_eq (words_ok (sub_in hsub)) (b_ok (P := fun t' => t' = ((ps ++ [r]).filter fun r => decide (lg S r ≤ most)).map (rowB S T)) (ok_if (fun hc => ?_) fun hc => ?_) fun t' h => ok_some h)
      · refine b_eq (brief_ok hS (sub_in hsub) (by omega)) (b_chkN (by omega) (ok_some ?_))
        rw [List.filter_append, List.filter_cons, if_pos hc, List.filter_nil, List.map_append, i]; rfl
      · refine ok_some ?_
        rw [List.filter_append, List.filter_cons, if_neg (by rw [hc]; decide), List.filter_nil, List.append_nil, i]
    · have hne : (fitS S most).map (rowB S T) ≠ [] := fun q => by
        have := fit_nil (S := S) h0
        rw [List.map_eq_nil_iff.mp q] at this
        cases this
      obtain ⟨v, hv⟩ := Pw.minE_some hne
      have i : t = (fitS S most).map (rowB S T) := i
      rw [i]
      obtain ⟨h1, h2⟩ := best_min94 hv
      refine b_eq hv (b_some (ok_some ⟨v.b, h1, ?_⟩))
      have h3 : v.a = -wr S T v.b := congrArg (·.a) h2
      rw [h3, Int.neg_neg]
  obtain ⟨v, e, r, hr, rfl⟩ := key
  exact ⟨r, hr, e⟩
/-- where the first sentences end -/
def FirstN (S : List (List Str)) (most f : Int) : Prop := 0 ≤ f ∧ f ≤ (S.length : Int) ∧ (∀ i, 0 ≤ i → i < f → lg S (rng 0 (i + 1)) ≤ most) ∧ (f = (S.length : Int) ∨ most < lg S (rng 0 (f + 1)))
omit hS in
theorem first_one {f g : Int} (h : FirstN S most f) (k : FirstN S most g) : f = g := by
  obtain ⟨a1, a2, a3, a4⟩ := h
  obtain ⟨b1, b2, b3, b4⟩ := k
  rcases Int.lt_trichotomy f g with q | q | q
  · rcases a4 with a4 | a4
    · omega
    · have := b3 f a1 q; omega
  · exact q
  · rcases b4 with b4 | b4
    · omega
    · have := a3 g b1 q; omega
omit hS in
theorem rng_in {f : Int} (h : f ≤ (S.length : Int)) : InS S (rng 0 f) := fun k hk => by
  have := rng_mem.mp hk; omega
omit hS in
theorem find_rng {n : Int} {c : Int → Bool} {x : Int} (h : (rng 0 n).find? c = some x) : 0 ≤ x ∧ x < n ∧ c x = true ∧ ∀ i, 0 ≤ i → i < x → c i = false := by
  have hx := rng_mem.mp (List.mem_of_find?_eq_some h)
  obtain ⟨hc, as, bs, e, ha⟩ := List.find?_eq_some_iff_append.mp h
  refine ⟨hx.1, hx.2, hc, fun i h0 h1 => ?_⟩
  have hs := rng_sorted 0 n
  have hi : i ∈ rng 0 n := rng_mem.mpr ⟨h0, by omega⟩
  rw [e] at hs hi
  rcases List.mem_append.mp hi with q | q
  · have := ha i q; simpa using this
  · rcases List.mem_cons.mp q with q | q
    · omega
    · have := (List.pairwise_cons.mp (List.pairwise_append.mp hs).2.1).1 i q; omega
theorem firsts_ok : ∃ f, FirstN S most f ∧ m_first_sentences S most = some (rng 0 f) := by
  have hn := hS.n
  have key : Ok (m_first_sentences S most) fun r => ∃ f, FirstN S most f ∧ r = rng 0 f := by
    unfold m_first_sentences
    have L := loopM_fst (xs := rng 0 (S.length : Int)) (t := ([] : List Int)) (c := fun x => decide (most < lg S (rng 0 (x + 1)))) (g := fun x => rng 0 x) (step := fun (t2 : (List Int)) (x3 : Int) =>
  ((chkN (t2.length + ([x3] : (List Int)).length)).bind fun u4 =>
  (m_words_in_brief S (t2 ++ ([x3] : (List Int)))).bind fun r5 =>
  if (decide (most < r5)) = true then
    (some (Out.ret (t2 : (List Int))))
  else
    ((chkN ((t2).length + (([x3] : (List Int))).length)).bind fun u7 =>
    (some (t2 ++ ([x3] : (List Int)) : (List Int))).bind fun v8 =>
    some (.nx v8)) : Option (Out (List Int) (List Int)))) (fun ps t => t = rng 0 (ps.length : Int)) rfl (fun ps t x qs e i => by
      have hx := rng_split e
      have hm := rng_mem.mp (show x ∈ rng 0 (S.length : Int) by rw [e]; simp)
      have hx : x = (ps.length : Int) := by omega
      have e2 : t ++ [x] = rng 0 (x + 1) := by rw [rng_snoc (by omega), i, hx]
      have hl : t.length ≤ 10 := by rw [i, rng_len]; omega
      refine ⟨rng 0 (x + 1), ?_, fun _ => by rw [List.length_append, List.length_singleton, hx]; rfl⟩
      rw [chkN_some (by rw [List.length_singleton]; omega), Option.bind_some, e2, words_ok (rng_in (by omega)), Option.bind_some, Option.bind_some, Option.bind_some]
      by_cases q : most < lg S (rng 0 (x + 1))
      · rw [decide_eq_true q, if_pos rfl, if_pos rfl, i, hx]
      · rw [decide_eq_false q]; rfl)
    refine b_some ?_
    cases q : (rng 0 (S.length : Int)).find? (fun x => decide (most < lg S (rng 0 (x + 1)))) with
    | some x =>
      refine b_eq (L.1 x q) (ok_some ⟨x, ?_, rfl⟩)
      obtain ⟨a, b, c, d⟩ := find_rng q
      exact ⟨a, by omega, fun i h0 h1 => by have := of_decide_eq_false (d i h0 h1); omega, .inr (of_decide_eq_true c)⟩
    | none =>
      obtain ⟨t, i, e⟩ := L.2 q
      refine b_eq e (ok_some ⟨(S.length : Int), ⟨by omega, Int.le_refl _, fun i h0 h1 => ?_, .inl rfl⟩, ?_⟩)
      · have := List.find?_eq_none.mp q i (rng_mem.mpr ⟨h0, h1⟩)
        simp at this; exact this
      · rw [i, rng_len]; congr 1
  obtain ⟨r, e, f, hf, rfl⟩ := key
  exact ⟨f, hf, e⟩
end
/-! ### the greedy brief -/
def gain (S : List (List Str)) (T : List (T2 Str Int)) (fs : List Int) (k : Int) : Int := wr S T (fs ++ [k]) - wr S T fs
def candB (S : List (List Str)) (T : List (T2 Str Int)) (most : Int) (fs : List Int) (k : Int) : Bool := !decide (k ∈ fs) && (decide (lg S (fs ++ [k]) ≤ most) && decide (0 < gain S T fs k))
def cand (S : List (List Str)) (T : List (T2 Str Int)) (most : Int) (fs : List Int) : List Int := (rng 0 (S.length : Int)).filter (candB S T most fs)
def rowG (S : List (List Str)) (T : List (T2 Str Int)) (fs : List Int) (k : Int) : T2 Int Int := ⟨-gain S T fs k, k⟩
def pick (S : List (List Str)) (T : List (T2 Str Int)) (most : Int) (fs : List Int) : Option Int := (minE ((cand S T most fs).map (rowG S T fs))).map (·.b)
def grd (S : List (List Str)) (T : List (T2 Str Int)) (most : Int) : Nat → List Int → List Int
  | 0, fs => fs
  | n + 1, fs => (pick S T most fs).elim fs fun k => grd S T most n (fs ++ [k])
structure Gd (S : List (List Str)) (fs : List Int) : Prop where
  nd : fs.Nodup
  sub : InS S fs
section
variable {S : List (List Str)} {T : List (T2 Str Int)} {most : Int} {fs : List Int}
theorem cand_mem {k : Int} : k ∈ cand S T most fs ↔ (0 ≤ k ∧ k < (S.length : Int)) ∧ k ∉ fs ∧ lg S (fs ++ [k]) ≤ most ∧ 0 < gain S T fs k := by
  unfold cand candB
  rw [List.mem_filter, rng_mem]
  simp
theorem pick_some {k : Int} (h : pick S T most fs = some k) : k ∈ cand S T most fs ∧ (∀ j ∈ cand S T most fs, gain S T fs j < gain S T fs k ∨ (gain S T fs j = gain S T fs k ∧ k ≤ j)) ∧ minE ((cand S T most fs).map (rowG S T fs)) = some (rowG S T fs k) := by
  unfold pick at h
  cases q : minE ((cand S T most fs).map (rowG S T fs)) with
  | none => rw [q] at h; cases h
  | some v =>
    rw [q] at h
    have h : v.b = k := Option.some.inj h
    obtain ⟨h1, h2⟩ := minE_spec q
    obtain ⟨z, hz, rfl⟩ := List.mem_map.mp h1
    have h : z = k := h
    subst h
    refine ⟨hz, fun j hj => ?_, rfl⟩
    rcases leI.mp (h2 _ (List.mem_map.mpr ⟨j, hj, rfl⟩)) with q | ⟨q, q2⟩
    · left; omega
    · right; exact ⟨by omega, q2⟩
theorem pick_is {k : Int} (h : k ∈ cand S T most fs) (hl : ∀ j ∈ cand S T most fs, gain S T fs j < gain S T fs k ∨ (gain S T fs j = gain S T fs k ∧ k ≤ j)) : pick S T most fs = some k := by
  unfold pick
  rw [Pw.minE_is (y := rowG S T fs k) (List.mem_map.mpr ⟨k, h, rfl⟩) fun r hr => ?_]
  · rfl
  · obtain ⟨j, hj, rfl⟩ := List.mem_map.mp hr
    refine leI.mpr ?_
    rcases hl j hj with q | ⟨q, q2⟩
    · left; omega
    · right; exact ⟨by omega, q2⟩
theorem pick_none : pick S T most fs = none ↔ cand S T most fs = [] := by
  constructor
  · intro h
    apply Classical.byContradiction
    intro q
    obtain ⟨v, hv⟩ := Pw.minE_some (xs := (cand S T most fs).map (rowG S T fs)) fun z => q (List.map_eq_nil_iff.mp z)
    unfold pick at h
    rw [hv] at h; cases h
  · intro h
    unfold pick
    rw [h]; rfl
theorem gd_len (h : Gd S fs) : fs.length ≤ S.length := by
  have := h.nd.length_le_of_subset (l₂ := rng 0 (S.length : Int)) fun k hk => rng_mem.mpr (h.sub k hk)
  rw [rng_len] at this; omega
theorem gd_pick (h : Gd S fs) {k : Int} (hk : pick S T most fs = some k) : Gd S (fs ++ [k]) ∧ fs.length < S.length := by
  obtain ⟨h1, _⟩ := pick_some hk
  obtain ⟨h2, h3, _⟩ := cand_mem.mp h1
  have g : Gd S (fs ++ [k]) := ⟨List.nodup_append.mpr ⟨h.nd, by simp, fun a ha b hb => by rw [List.mem_singleton.mp hb]; exact fun e => h3 (e ▸ ha)⟩, fun j hj => by
    rcases List.mem_append.mp hj with q | q
    · exact h.sub j q
    · rw [List.mem_singleton.mp q]; exact h2⟩
  refine ⟨g, ?_⟩
  have := gd_len g
  rw [List.length_append, List.length_singleton] at this; omega
/-- the end of the greedy run from fs -/
def fin (S : List (List Str)) (T : List (T2 Str Int)) (most : Int) (fs : List Int) : List Int := grd S T most (S.length - fs.length) fs
theorem fin_none (h : pick S T most fs = none) : fin S T most fs = fs := by
  unfold fin
  cases S.length - fs.length with
  | zero => rfl
  | succ n => unfold grd; rw [h]; rfl
theorem fin_some (h : Gd S fs) {k : Int} (hk : pick S T most fs = some k) : fin S T most fs = fin S T most (fs ++ [k]) := by
  have := (gd_pick h hk).2
  unfold fin
  rw [show S.length - fs.length = (S.length - (fs ++ [k]).length) + 1 by simp; omega]
  conv => lhs; unfold grd
  rw [hk]; rfl
theorem grd_gd (n : Nat) : ∀ {fs : List Int}, Gd S fs → (fs = [] ∨ lg S fs ≤ most) → Gd S (grd S T most n fs) ∧ (grd S T most n fs = [] ∨ lg S (grd S T most n fs) ≤ most) := by
  induction n with
  | zero => intro fs h k; exact ⟨h, k⟩
  | succ n ih =>
    intro fs h k
    unfold grd
    cases q : pick S T most fs with
    | none => exact ⟨h, k⟩
    | some j => exact ih (gd_pick h q).1 (.inr (cand_mem.mp (pick_some q).1).2.2.1)
end
section
variable {S : List (List Str)} {T : List (T2 Str Int)} (hS : Ts S) {most : Int}
include hS
theorem inner_ok {fs : List Int} (g : Gd S fs) : loopF (fun (t5 : (Option (T2 Int Int))) (x6 : Int) =>
  ((chkN (fs.length + ([x6] : List Int).length)).bind fun u7 =>
  (m__law_worth_v2 S T (fs ++ ([x6] : List Int))).bind fun r8 =>
  (some ((r8 - wr S T fs) : Int)).bind fun v9 =>
  ((if (!decide (x6 ∈ fs)) = true then ((chkN (fs.length + ([x6] : List Int).length)).bind fun u10 => (m__law_long_v2 S (fs ++ ([x6] : List Int))).bind fun r11 => ((if (decide (r11 ≤ most)) = true then (((if (decide ((0 : Int) < v9)) = true then (((if t5.isNone = true then some true else ((t5).bind fun v12 => some (decide (v12.a < v9))))).bind fun v13 => some v13) else some false)).bind fun v14 => some v14) else some false)).bind fun v15 => some v15) else some false)).bind fun v16 =>
  ((if v16 = true then
    ((some ((some (⟨v9, x6⟩ : (T2 Int Int)) : (Option (T2 Int Int))) : (Option (T2 Int Int)))).bind fun v18 =>
    some v18)
  else
    (some t5) : Option (Option (T2 Int Int)))).bind fun j19 =>
  some j19 : Option (Option (T2 Int Int)))) none (rng 0 (S.length : Int)) = some ((pick S T most fs).map fun k => ⟨gain S T fs k, k⟩) := by
  have hn := hS.n
  have hfl := gd_len g
  have key : Ok (loopF (fun (t5 : (Option (T2 Int Int))) (x6 : Int) =>
  ((chkN (fs.length + ([x6] : List Int).length)).bind fun u7 =>
  (m__law_worth_v2 S T (fs ++ ([x6] : List Int))).bind fun r8 =>
  (some ((r8 - wr S T fs) : Int)).bind fun v9 =>
  ((if (!decide (x6 ∈ fs)) = true then ((chkN (fs.length + ([x6] : List Int).length)).bind fun u10 => (m__law_long_v2 S (fs ++ ([x6] : List Int))).bind fun r11 => ((if (decide (r11 ≤ most)) = true then (((if (decide ((0 : Int) < v9)) = true then (((if t5.isNone = true then some true else ((t5).bind fun v12 => some (decide (v12.a < v9))))).bind fun v13 => some v13) else some false)).bind fun v14 => some v14) else some false)).bind fun v15 => some v15) else some false)).bind fun v16 =>
  ((if v16 = true then
    ((some ((some (⟨v9, x6⟩ : (T2 Int Int)) : (Option (T2 Int Int))) : (Option (T2 Int Int)))).bind fun v18 =>
    some v18)
  else
    (some t5) : Option (Option (T2 Int Int)))).bind fun j19 =>
  some j19 : Option (Option (T2 Int Int)))) none (rng 0 (S.length : Int))) fun r => r = (pick S T most fs).map fun k => ⟨gain S T fs k, k⟩ := by
    refine ok_bs (b_loopFp (fun ps t => (t = none ∧ ∀ k ∈ ps, candB S T most fs k = false) ∨ ∃ k, t = some ⟨gain S T fs k, k⟩ ∧ k ∈ ps ∧ candB S T most fs k = true ∧ ∀ j ∈ ps, candB S T most fs j = true → gain S T fs j < gain S T fs k ∨ (gain S T fs j = gain S T fs k ∧ k ≤ j)) (.inl ⟨rfl, fun k hk => (by cases hk)⟩) (fun ps t x qs e i => ?_) fun t i => ok_some ?_)
    · have hx := rng_mem.mp (show x ∈ rng 0 (S.length : Int) by rw [e]; simp)
      have hlt : ∀ j ∈ ps, j < x := fun j hj => by
        have hs := rng_sorted 0 (S.length : Int)
        rw [e] at hs
        exact (List.pairwise_append.mp hs).2.2 j hj x List.mem_cons_self
      have hin : InS S (fs ++ [x]) := fun j hj => by
        rcases List.mem_append.mp hj with q | q
        · exact g.sub j q
        · rw [List.mem_singleton.mp q]; exact hx
      have hlen : (fs ++ [x]).length ≤ 1000 := by simp; omega
      refine b_chkN (by simp; omega) (b_eq (lworth2_ok hS hin hlen) (b_some ?_))
      rw [show wr S T (fs ++ [x]) - wr S T fs = gain S T fs x from rfl]
      refine b_ok (P := fun v => v = (candB S T most fs x && (t.isNone || decide ((t.getD ⟨0, 0⟩).a < gain S T fs x)))) ?_ fun v hv => ?_
      · refine ok_if (fun h1 => ?_) fun h1 => ok_some (by unfold candB; rw [h1]; rfl)
        refine b_chkN (by simp; omega) (b_eq (llong2_ok hin) (b_ok (P := fun v => v = (candB S T most fs x && (t.isNone || decide ((t.getD ⟨0, 0⟩).a < gain S T fs x)))) ?_ fun v hv => ok_some hv))
        refine ok_if (fun h2 => ?_) fun h2 => ok_some (by unfold candB; rw [h1, h2]; rfl)
        refine b_ok (P := fun v => v = (candB S T most fs x && (t.isNone || decide ((t.getD ⟨0, 0⟩).a < gain S T fs x)))) ?_ fun v hv => ok_some hv
        refine ok_if (fun h3 => ?_) fun h3 => ok_some (by unfold candB; rw [h1, h2, h3]; rfl)
        have hc : candB S T most fs x = true := by unfold candB; rw [h1, h2, h3]; rfl
        rw [hc, Bool.true_and]
        refine b_ok (P := fun v => v = (t.isNone || decide ((t.getD ⟨0, 0⟩).a < gain S T fs x))) ?_ fun v hv => ok_some hv
        cases t with
        | none => exact ok_some rfl
        | some v => exact ok_some rfl
      · subst hv
        refine b_ok (P := fun t' => t' = if (candB S T most fs x && (t.isNone || decide ((t.getD ⟨0, 0⟩).a < gain S T fs x))) = true then some ⟨gain S T fs x, x⟩ else t) (ok_if (fun h => ok_some (by rw [if_pos h])) fun h => ok_some (by rw [if_neg (by rw [h]; decide)])) fun t' ht' => ok_some ?_
        subst ht'
        cases hc : candB S T most fs x with
        | false =>
          rw [Bool.false_and, if_neg (by decide)]
          rcases i with ⟨a, b⟩ | ⟨k, a, b, c, d⟩
          · left; exact ⟨a, fun j hj => (List.mem_append.mp hj).elim (b j) fun q => by rw [List.mem_singleton.mp q]; exact hc⟩
          · right; refine ⟨k, a, List.mem_append_left _ b, c, fun j hj q => ?_⟩
            rcases List.mem_append.mp hj with r | r
            · exact d j r q
            · rw [List.mem_singleton.mp r, hc] at q; cases q
        | true =>
          rw [Bool.true_and]
          rcases i with ⟨a, b⟩ | ⟨k, a, b, c, d⟩
          · rw [a]
            right; refine ⟨x, rfl, by simp, hc, fun j hj q => ?_⟩
            rcases List.mem_append.mp hj with r | r
            · rw [b j r] at q; cases q
            · rw [List.mem_singleton.mp r]; right; exact ⟨rfl, Int.le_refl _⟩
          · rw [a]
            show _ ∨ _
            by_cases q : gain S T fs k < gain S T fs x
            · rw [if_pos (by simpa using q)]
              right; refine ⟨x, rfl, by simp, hc, fun j hj z => ?_⟩
              rcases List.mem_append.mp hj with r | r
              · rcases d j r z with w | ⟨w, _⟩
                · left; omega
                · left; omega
              · rw [List.mem_singleton.mp r]; right; exact ⟨rfl, Int.le_refl _⟩
            · rw [if_neg (by simpa using q)]
              right; refine ⟨k, rfl, List.mem_append_left _ b, c, fun j hj z => ?_⟩
              rcases List.mem_append.mp hj with r | r
              · exact d j r z
              · rw [List.mem_singleton.mp r]
                have := hlt k b
                by_cases w : gain S T fs x = gain S T fs k
                · right; exact ⟨w, by omega⟩
                · left; omega
    · rcases i with ⟨a, b⟩ | ⟨k, a, b, c, d⟩
      · rw [pick_none.mpr (List.filter_eq_nil_iff.mpr fun k hk => by rw [b k hk]; decide), a]; rfl
      · rw [pick_is (k := k) (List.mem_filter.mpr ⟨b, c⟩) fun j hj => d j (List.mem_filter.mp hj).1 (List.mem_filter.mp hj).2, a]; rfl
  obtain ⟨r, e, rfl⟩ := key
  exact e
theorem lgreedy_ok : m__law_greedy S T most = some (sortE (fin S T most [])) := by
  have hn := hS.n
  have key : Ok (m__law_greedy S T most) fun r => r = sortE (fin S T most []) := by
    unfold m__law_greedy
    have run : ∀ (xs : List Int) (fs : List Int), Gd S fs → ∃ o, loopM (fun (t1 : (List Int)) (x2 : Int) =>
  ((m__law_worth_v2 S T t1).bind fun r3 =>
  (some ((none : (Option (T2 Int Int))) : (Option (T2 Int Int)))).bind fun v4 =>
  (loopF (fun (t5 : (Option (T2 Int Int))) (x6 : Int) =>
  ((chkN (t1.length + ([x6] : List Int).length)).bind fun u7 =>
  (m__law_worth_v2 S T (t1 ++ ([x6] : List Int))).bind fun r8 =>
  (some ((r8 - r3) : Int)).bind fun v9 =>
  ((if (!decide (x6 ∈ t1)) = true then ((chkN (t1.length + ([x6] : List Int).length)).bind fun u10 => (m__law_long_v2 S (t1 ++ ([x6] : List Int))).bind fun r11 => ((if (decide (r11 ≤ most)) = true then (((if (decide ((0 : Int) < v9)) = true then (((if t5.isNone = true then some true else ((t5).bind fun v12 => some (decide (v12.a < v9))))).bind fun v13 => some v13) else some false)).bind fun v14 => some v14) else some false)).bind fun v15 => some v15) else some false)).bind fun v16 =>
  ((if v16 = true then
    ((some ((some (⟨v9, x6⟩ : (T2 Int Int)) : (Option (T2 Int Int))) : (Option (T2 Int Int)))).bind fun v18 =>
    some v18)
  else
    (some t5) : Option (Option (T2 Int Int)))).bind fun j19 =>
  some j19 : Option (Option (T2 Int Int)))) v4 (rng 0 (S.length : Int))).bind fun f20 =>
  if f20.isNone = true then
    (some (.bk t1))
  else
    ((f20).bind fun v22 =>
    (chkN t1.length).bind fun u23 =>
    some (.nx (t1 ++ [v22.b]))) : Option (Out Empty (List Int)))) fs xs = some o ∧ (o = .nx (grd S T most xs.length fs) ∨ o = .bk (grd S T most xs.length fs)) := by
      intro xs
      induction xs with
      | nil => intro fs g; exact ⟨_, rfl, .inl rfl⟩
      | cons x xs ih =>
        intro fs g
        have hfl := gd_len g
        unfold loopM
        rw [lworth2_ok hS g.sub (by omega), Option.bind_some, Option.bind_some, inner_ok hS g, Option.bind_some]
        cases q : pick S T most fs with
        | none =>
          refine ⟨_, rfl, .inl ?_⟩
          rw [List.length_cons]
          unfold grd
          rw [q]; rfl
        | some k =>
          have g2 := (gd_pick g q).1
          obtain ⟨o, e, h⟩ := ih (fs ++ [k]) g2
          rw [Option.map_some, if_neg (by simp), Option.bind_some, chkN_some (by omega), Option.bind_some]
          refine ⟨o, e, ?_⟩
          rw [List.length_cons]
          have : grd S T most (xs.length + 1) fs = grd S T most xs.length (fs ++ [k]) := by
            conv => lhs; unfold grd
            rw [q]; rfl
          rw [this]; exact h
    obtain ⟨o, e, h⟩ := run (rng 0 (S.length : Int)) [] ⟨List.nodup_nil, fun k hk => (by cases hk)⟩
    have e2 : grd S T most (rng 0 (S.length : Int)).length [] = fin S T most [] := by
      unfold fin
      rw [rng_len]; congr 1
    rw [e2] at h
    refine b_eq e ?_
    rcases h with rfl | rfl <;> exact ok_some rfl
  obtain ⟨r, e, rfl⟩ := key
  exact e
theorem greedy_ok : m_greedy_brief 5000 S T most = some (sortE (fin S T most [])) := by
  have hn := hS.n
  have key : Ok (m_greedy_brief 5000 S T most) fun r => r = sortE (fin S T most []) := by
    unfold m_greedy_brief
    refine b_some (b_while (fun t => ∃ fs, Gd S fs ∧ t.1 = sortE fs ∧ fin S T most fs = fin S T most [] ∧ (t.2 = false → pick S T most fs = none)) (fun t => if t.2 = true then S.length + 2 - t.1.length else 0) ⟨[], ⟨List.nodup_nil, fun k hk => (by cases hk)⟩, by decide +kernel, rfl, fun h => (by cases h)⟩ (by show S.length + 2 - 0 < 5000; omega) (fun t ⟨fs, g, e1, e2, e3⟩ => ?_) fun t ⟨fs, g, e1, e2, e3⟩ hc => ?_)
    · cases hb : t.2 with
      | false => exact .inl rfl
      | true =>
        refine .inr ⟨rfl, ?_⟩
        have hfl := gd_len g
        have hm : ∀ k, k ∈ t.1 ↔ k ∈ fs := fun k => by rw [e1, Pw.sortE_mem]
        have ht : t.1.length = fs.length := by rw [e1, sortE_len]
        have hs : InS S t.1 := fun k hk => g.sub k ((hm k).mp hk)
        have rows : loopF (fun (t3 : (List (T2 Int Int))) (x4 : Int) =>
  ((chkN (t.1.length + ([x4] : (List Int)).length)).bind fun u5 =>
  (some ((sortE (t.1 ++ ([x4] : (List Int)))) : (List Int))).bind fun v6 =>
  (m_worth_of_brief S T v6).bind fun r7 =>
  (m_worth_of_brief S T t.1).bind fun r8 =>
  (some ((r7 - r8) : Int)).bind fun v9 =>
  ((if (!decide (x4 ∈ t.1)) = true then ((m_words_in_brief S v6).bind fun r10 => some ((decide (r10 ≤ most)) && (decide ((0 : Int) < v9)))) else some false)).bind fun v11 =>
  ((if v11 = true then
    ((chkN t3.length).bind fun u13 =>
    some (t3 ++ [(⟨(-v9), x4⟩ : (T2 Int Int))]))
  else
    (some t3) : Option (List (T2 Int Int)))).bind fun j14 =>
  some j14 : Option (List (T2 Int Int)))) ([] : List (T2 Int Int)) (rng 0 (S.length : Int)) = some ((cand S T most fs).map (rowG S T fs)) := by
          have : Ok (loopF (fun (t3 : (List (T2 Int Int))) (x4 : Int) =>
  ((chkN (t.1.length + ([x4] : (List Int)).length)).bind fun u5 =>
  (some ((sortE (t.1 ++ ([x4] : (List Int)))) : (List Int))).bind fun v6 =>
  (m_worth_of_brief S T v6).bind fun r7 =>
  (m_worth_of_brief S T t.1).bind fun r8 =>
  (some ((r7 - r8) : Int)).bind fun v9 =>
  ((if (!decide (x4 ∈ t.1)) = true then ((m_words_in_brief S v6).bind fun r10 => some ((decide (r10 ≤ most)) && (decide ((0 : Int) < v9)))) else some false)).bind fun v11 =>
  ((if v11 = true then
    ((chkN t3.length).bind fun u13 =>
    some (t3 ++ [(⟨(-v9), x4⟩ : (T2 Int Int))]))
  else
    (some t3) : Option (List (T2 Int Int)))).bind fun j14 =>
  some j14 : Option (List (T2 Int Int)))) ([] : List (T2 Int Int)) (rng 0 (S.length : Int))) fun r => r = (cand S T most fs).map (rowG S T fs) := by
            refine ok_bs (b_loopFp (fun ps z => z = (ps.filter (candB S T most fs)).map (rowG S T fs)) rfl (fun ps z x qs e i => ?_) fun z i => ok_some i)
            have hx := rng_mem.mp (show x ∈ rng 0 (S.length : Int) by rw [e]; simp)
            have hz : z.length ≤ 10 := by
              rw [i, List.length_map]
              refine Nat.le_trans (List.length_filter_le _ _) ?_
              have h1 : ps.length ≤ (rng 0 (S.length : Int)).length := by rw [e]; simp
              rw [rng_len] at h1; omega
            have hv : ∀ k, k ∈ sortE (t.1 ++ [x]) ↔ k ∈ fs ++ [x] := fun k => by rw [Pw.sortE_mem, List.mem_append, List.mem_append, hm]
            have hvs : InS S (sortE (t.1 ++ [x])) := fun k hk => by
              rcases List.mem_append.mp ((hv k).mp hk) with q | q
              · exact g.sub k q
              · rw [List.mem_singleton.mp q]; exact hx
            refine b_chkN (by simp; omega) (b_some (b_eq (brief_ok hS hvs (by rw [sortE_len]; simp; omega)) (b_eq (brief_ok hS hs (by omega)) (b_some ?_))))
            rw [wr_congr hv, wr_congr hm, show wr S T (fs ++ [x]) - wr S T fs = gain S T fs x from rfl]
            refine b_ok (P := fun v => v = candB S T most fs x) (ok_if (fun h => b_eq (words_ok hvs) (ok_some ?_)) fun h => ok_some ?_) fun v hv2 => ?_
            · rw [lg_perm ((sortE_perm _).trans (show (t.1 ++ [x]).Perm (fs ++ [x]) from (by rw [e1]; exact sortE_perm fs : t.1.Perm fs).append_right [x]))]
              unfold candB
              rw [← decide_eq_decide.mpr (hm x), h]; rfl
            · unfold candB
              rw [← decide_eq_decide.mpr (hm x), h]; rfl
            · subst hv2
              refine b_ok (P := fun z' => z' = ((ps ++ [x]).filter (candB S T most fs)).map (rowG S T fs)) (ok_if (fun h => b_chkN (by omega) (ok_some ?_)) fun h => ok_some ?_) fun z' h => ok_some h
              · rw [List.filter_append, List.filter_cons, if_pos h, List.filter_nil, List.map_append, i]; rfl
              · rw [List.filter_append, List.filter_cons, if_neg (by rw [h]; decide), List.filter_nil, List.append_nil, i]
          obtain ⟨r, e, rfl⟩ := this
          exact e
        rw [rows, Option.bind_some, Option.bind_some]
        cases q : pick S T most fs with
        | none =>
          have hc := pick_none.mp q
          rw [hc]
          refine ⟨(t.1, false), rfl, ⟨fs, g, e1, e2, fun _ => q⟩, ?_⟩
          simp only [Bool.false_eq_true, if_false, if_true]
          omega
        | some k =>
          obtain ⟨h1, _, h3⟩ := pick_some q
          have g2 := gd_pick g q
          have hne : decide ((0 : Int) < (((cand S T most fs).map (rowG S T fs)).length : Int)) = true := by
            rw [List.length_map]
            have := List.length_pos_of_mem h1
            exact decide_eq_true (by omega)
          rw [hne, if_pos rfl, h3, Option.bind_some, chkN_some (by simp; omega)]
          refine ⟨(sortE (t.1 ++ [k]), true), rfl, ⟨fs ++ [k], g2.1, ?_, by rw [← fin_some g q]; exact e2, fun h => (by cases h)⟩, ?_⟩
          · exact sortE_eq ((by rw [e1]; exact sortE_perm fs : t.1.Perm fs).append_right [k])
          · simp only [if_true, sortE_len, List.length_append, List.length_singleton]
            have := g2.2
            omega
    · have hb : t.2 = false := Option.some.inj hc
      refine ok_some ?_
      rw [e1, ← e2, fin_none (e3 hb)]
  obtain ⟨r, e, rfl⟩ := key
  exact e
end
/-! ### the law's parts -/
theorem asc_sub {z : List Int} {n : Int} (h : z.Pairwise (· < ·)) (hz : ∀ k ∈ z, 0 ≤ k ∧ k < n) : z.Sublist (rng 0 n) := by
  have e : z = (rng 0 n).filter fun k => decide (k ∈ z) := sorted_eq h ((rng_sorted 0 n).filter _) fun k => by
    rw [List.mem_filter, rng_mem, decide_eq_true_iff]
    exact ⟨fun q => ⟨hz k q, q⟩, (·.2)⟩
  rw [e]
  exact List.filter_sublist
section
variable {S : List (List Str)} {T : List (T2 Str Int)} (hS : Ts S) (hn9 : S.length ≤ 9) (hT : ∀ x ∈ T, 0 ≤ x.b) {most : Int} (h0 : 0 ≤ most)
theorem sen_more {z : List Str} {k : Int} (h : 0 ≤ k ∧ k < (S.length : Int)) : sen (S ++ [z]) k = sen S k := by
  unfold sen
  rw [List.getD_eq_getElem?_getD, List.getD_eq_getElem?_getD, List.getElem?_append_left (by omega)]
theorem wr_more {z : List Str} {r : List Int} (h : InS S r) : wr (S ++ [z]) T r = wr S T r := by
  unfold wr
  congr 2
  refine List.filter_congr fun x _ => decide_eq_decide.mpr ?_
  rw [wds_mem, wds_mem]
  exact ⟨fun ⟨k, a, b⟩ => ⟨k, a, by rw [← sen_more (h k a)]; exact b⟩, fun ⟨k, a, b⟩ => ⟨k, a, by rw [sen_more (h k a)]; exact b⟩⟩
theorem lg_more {z : List Str} {r : List Int} (h : InS S r) : lg (S ++ [z]) r = lg S r := by
  unfold lg
  congr 1
  refine List.map_congr_left fun k hk => ?_
  rw [sen_more (h k hk)]
include hS h0
theorem fin_fit : sortE (fin S T most []) ∈ fitS S most := by
  obtain ⟨g, hl⟩ := grd_gd (S := S) (T := T) (most := most) (S.length - ([] : List Int).length) (fs := []) ⟨List.nodup_nil, fun k hk => (by cases hk)⟩ (.inl rfl)
  rw [show grd S T most (S.length - ([] : List Int).length) [] = fin S T most [] from rfl] at g hl
  refine fit_mem.mpr ⟨asc_sub (sort_lt g.nd) fun k hk => g.sub k (Pw.sortE_mem.mp hk), ?_⟩
  rw [lg_perm (sortE_perm _)]
  rcases hl with q | q
  · rw [q]; exact h0
  · exact q
include hn9 in
theorem bestright_ok : m__law_is_best_right 5000 S T most = some true := by
  have key : Ok (m__law_is_best_right 5000 S T most) fun r => r = true := by
    unfold m__law_is_best_right
    have hn := hS.n
    obtain ⟨r, hb, eb⟩ := best_ok (T := T) hS h0
    have hsub := fun z (hz : z ∈ fitS S most) => (fit_mem.mp hz).1
    refine b_some (b_eq (allS_ok hn) ?_)
    rw [compO_filter (cd := fun r : List Int => decide (lg S r ≤ most)) (el := fun r : List Int => r) _ fun z hz => by
      exact bind_eq (llong_ok (sub_in (subs_mem.mp hz))) som_if]
    rw [filt_map_id]
    refine b_some ?_
    rw [show (allS S.length).filter (fun r : List Int => decide (lg S r ≤ most)) = fitS S most from rfl]
    rw [compO_filter (cd := fun _ => true) (el := fun r : List Int => wr S T r) _ fun z hz => by
      exact bind_eq (lworth_ok hS (sub_in (hsub z hz)) (by have := sub_l hn (hsub z hz); omega)) rfl]
    rw [filt_true]
    have hmax : maxE ((fitS S most).map fun r => wr S T r) = some (wr S T r) := maxE_is (List.mem_map.mpr ⟨r, hb.1, rfl⟩) fun x hx => by
      obtain ⟨z, hz, rfl⟩ := List.mem_map.mp hx
      rw [leE_int]
      refine decide_eq_true ?_
      rcases hb.2 z hz with q | ⟨q, _⟩ <;> omega
    refine b_some (b_eq hmax ?_)
    rw [compO_filter (cd := fun z : List Int => decide (wr S T z = wr S T r)) (el := fun r : List Int => r) _ fun z hz => by
      exact bind_eq (lworth_ok hS (sub_in (hsub z hz)) (by have := sub_l hn (hsub z hz); omega)) som_if]
    rw [filt_map_id]
    have hmin : minE ((fitS S most).filter fun z : List Int => decide (wr S T z = wr S T r)) = some r := minE_is (List.mem_filter.mpr ⟨hb.1, decide_eq_true rfl⟩) fun z hz => by
      obtain ⟨h1, h2⟩ := List.mem_filter.mp hz
      have h2 := of_decide_eq_true h2
      rcases hb.2 z h1 with q | ⟨_, q⟩
      · omega
      · exact q
    refine b_some (b_eq hmin (b_eq (lgreedy_ok hS) (b_eq eb (b_ok (P := fun v => v = false) (b_no (ndecE rfl) (b_eq (greedy_ok hS) (ok_some (ndecE rfl)))) fun v hv => b_no hv ?_))))
    have hf := fin_fit (T := T) hS h0
    refine b_eq (lworth_ok hS (sub_in (hsub _ hf)) (by have := sub_l hn (hsub _ hf); omega)) ?_
    obtain ⟨r2, hb2, eb2⟩ := best_ok (T := T) hS (most := most + 2) (by omega)
    have hS2 : Ts (S ++ [[("zero" : Str)]]) := ⟨by simp; omega, fun s hs => by
      rcases List.mem_append.mp hs with q | q
      · exact hS.w s q
      · rw [List.mem_singleton.mp q]; decide⟩
    obtain ⟨r3, hb3, eb3⟩ := best_ok (T := T) hS2 h0
    refine b_ok (P := fun v => v = false) (b_no (decide_eq_false ?_) (b_eq eb2 (b_or (decide_eq_false ?_) (b_bind (b_chkN (by simp; omega) (b_bind (b_eq eb3 (b_some (ok_some (decide_eq_false ?_))))))))) ) fun v hv => b_no hv ?_
    · rcases hb.2 _ hf with q | ⟨q, _⟩ <;> omega
    · have : r ∈ fitS S (most + 2) := by
        obtain ⟨a, b⟩ := fit_mem.mp hb.1
        exact fit_mem.mpr ⟨a, by omega⟩
      show ¬wr S T r2 < wr S T r
      rcases hb2.2 _ this with q | ⟨q, _⟩ <;> omega
    · obtain ⟨a, b⟩ := fit_mem.mp hb.1
      have hi := sub_in a
      have : r ∈ fitS (S ++ [[("zero" : Str)]]) most := fit_mem.mpr ⟨a.trans (by
        rw [List.length_append, List.length_singleton]
        show (rng 0 (S.length : Int)).Sublist (rng 0 ((S.length : Int) + 1))
        rw [rng_snoc (by omega)]
        exact List.sublist_append_left _ _), by rw [lg_more hi]; exact b⟩
      show ¬wr (S ++ [[("zero" : Str)]]) T r3 < wr S T r
      have e := wr_more (T := T) (z := [("zero" : Str)]) hi
      rcases hb3.2 _ this with q | ⟨q, _⟩ <;> omega
    · obtain ⟨f, hf1, ef⟩ := firsts_ok (most := most) hS
      have cnd : ∀ t : Int, 0 ≤ t → t ≤ (S.length : Int) → ((((if (decide (t < (S.length : Int))) = true then ((chkRg 0 (t + (1 : Int))).bind fun u34 => (m__law_long_v2 S (rng 0 (t + (1 : Int)))).bind fun r35 => some (decide (r35 ≤ most))) else some false)).bind fun v36 => some v36) : Option Bool) = some (decide (t < (S.length : Int)) && decide (lg S (rng 0 (t + 1)) ≤ most)) := fun t a b => by
        by_cases q : t < (S.length : Int)
        · rw [decide_eq_true q, if_pos rfl, show chkRg 0 (t + 1) = some () from if_pos (by omega), Option.bind_some, llong2_ok (rng_in (by omega))]; rfl
        · rw [decide_eq_false q]; rfl
      refine b_while (fun t => 0 ≤ t ∧ t ≤ (S.length : Int) ∧ ∀ i, 0 ≤ i → i < t → lg S (rng 0 (i + 1)) ≤ most) (fun t => S.length - t.toNat) ⟨by omega, by omega, fun i a b => by omega⟩ (by omega) (fun t ⟨a, b, c⟩ => ?_) fun t ⟨a, b, c⟩ hc => ?_
      · rw [cnd t a b]
        cases q : (decide (t < (S.length : Int)) && decide (lg S (rng 0 (t + 1)) ≤ most)) with
        | false => exact .inl rfl
        | true =>
          rw [Bool.and_eq_true, decide_eq_true_iff, decide_eq_true_iff] at q
          refine .inr ⟨rfl, t + 1, rfl, ⟨by omega, by omega, fun i h1 h2 => ?_⟩, by omega⟩
          by_cases w : i = t
          · rw [w]; exact q.2
          · exact c i h1 (by omega)
      · rw [cnd t a b] at hc
        have hc := Option.some.inj hc
        have : FirstN S most t := ⟨a, b, c, by
          by_cases q : t < (S.length : Int)
          · right
            rw [decide_eq_true q, Bool.true_and] at hc
            have := of_decide_eq_false hc; omega
          · left; omega⟩
        rw [first_one this hf1]
        exact b_eq ef (b_chkRg (by have := hf1.1; have := hf1.2.1; omega) (ok_some (decide_eq_true rfl)))
  obtain ⟨r, e, rfl⟩ := key
  exact e
omit h0
include hT
theorem needless_ok {r : List Int} (h : InS S r) (hl : r.length ≤ 20) : m_needless_in S T r = some (r.filter fun k => decide (wr S T (r.filter fun j => !decide (j = k)) = wr S T r)) := by
  have key : Ok (m_needless_in S T r) fun v => v = r.filter fun k => decide (wr S T (r.filter fun j => !decide (j = k)) = wr S T r) := by
    unfold m_needless_in
    refine b_eq (brief_ok hS h (by omega)) (b_loopFp (fun ps t => t = ps.filter fun k => decide (wr S T (r.filter fun j => !decide (j = k)) = wr S T r)) rfl (fun ps t k qs e i => ?_) fun t i => ok_some i)
    have ht : t.length ≤ 20 := by
      rw [i]
      refine Nat.le_trans (List.length_filter_le _ _) ?_
      have h1 : ps.length ≤ r.length := by rw [e]; simp
      omega
    refine b_some ?_
    rw [filt_map_id]
    refine b_eq (brief_ok hS (fun j hj => h j (List.mem_filter.mp hj).1) (by have := List.length_filter_le (fun j => !decide (j = k)) r; omega)) (b_ok (P := fun t' => t' = (ps ++ [k]).filter fun k => decide (wr S T (r.filter fun j => !decide (j = k)) = wr S T r)) (ok_if (fun h => b_chkN (by omega) (ok_some ?_)) fun h => ok_some ?_) fun t' h => ok_some h)
    · rw [List.filter_append, List.filter_cons, if_pos h, List.filter_nil, i]
    · rw [List.filter_append, List.filter_cons, if_neg (by rw [h]; decide), List.filter_nil, List.append_nil, i]
  obtain ⟨v, e, rfl⟩ := key
  exact e
theorem toldright_ok (ds : List Int) : Ok (m__law_is_told_right ds S T) fun p => p.1 = true := by
  unfold m__law_is_told_right
  have hn := hS.n
  refine b_loopM (fun _ => True) trivial (fun t x _ _ => ?_) fun t _ => b_outC (ok_some rfl)
  refine b_chkI (by omega) (b_compS (fun t x _ => b_take (by omega) fun v d _ _ => ok_if (fun _ => ok_some fun y hy => (Option.some.inj hy).symm) fun _ => ok_some fun y hy => (by cases hy)) fun y1 d1 hy1 => b_chkI (by omega) (b_compS (fun t x _ => b_take (by omega) fun v d _ _ => ok_if (fun _ => ok_some fun y hy => (Option.some.inj hy).symm) fun _ => ok_some fun y hy => (by cases hy)) fun y2 d2 hy2 => ?_))
  have i1 := sub_in hy1
  have i2 := sub_in hy2
  have l1 := sub_l hn hy1
  have l2 := sub_l hn hy2
  dsimp only
  refine b_eq (lworth_ok hS i1 (by omega)) (b_eq (brief_ok hS i1 (by omega)) (b_ok (P := fun v => v = false) (b_no (ndecE rfl) (b_eq (words_ok i1) (b_eq (llong_ok i1) (ok_some (ndecE rfl))))) fun v hv => b_no hv ?_))
  rw [compO_filter (cd := fun k => decide (wr S T (y1.filter fun j => !decide (j = k)) = wr S T y1)) (el := fun k : Int => k) _ fun k hk => by
    rw [filt_map_id]
    exact bind_eq (lworth2_ok hS (fun j hj => i1 j (List.mem_filter.mp hj).1) (by have := List.length_filter_le (fun j => !decide (j = k)) y1; omega)) som_if]
  rw [filt_map_id]
  refine b_some (b_eq (needless_ok hS hT i1 (by omega)) (b_no (ndecE rfl) (b_chkN (by omega) (b_chkS (by rw [List.length_append]; omega) (b_some ?_)))))
  have hm : ∀ k, k ∈ sortE (setE (y1 ++ y2)) ↔ k ∈ y1 ∨ k ∈ y2 := fun k => by rw [Pw.sortE_mem, Pw.setE_mem, List.mem_append]
  have i3 : InS S (sortE (setE (y1 ++ y2))) := fun k hk => ((hm k).mp hk).elim (i1 k) (i2 k)
  have l3 : (sortE (setE (y1 ++ y2))).length ≤ 1000 := by
    rw [sortE_len]
    have := setE_len (y1 ++ y2)
    rw [List.length_append] at this; omega
  refine b_eq (brief_ok hS i3 l3) (b_eq (brief_ok hS i2 (by omega)) (b_ok (P := fun v => v = false) (b_no (decide_eq_false ?_) (b_eq (brief_ok hS i3 l3) (ok_some (decide_eq_false ?_)))) fun v hv => b_no hv (ok_some ⟨_, rfl, trivial⟩)))
  · have := wr_sub (S := S) hT (r := sortE (setE (y1 ++ y2))) (y := y1) (z := y2) fun k hk => (hm k).mp hk
    omega
  · have := wr_mono (S := S) hT (r := y1) (z := sortE (setE (y1 ++ y2))) fun k hk => (hm k).mpr (.inl hk)
    omega
end
/-! ### what is drawn; the law -/
theorem text_ok (ds : List Int) {n : Int} (h0 : 0 ≤ n) (h1 : n ≤ 9) : Ok (m__law_text ds n) fun p => Ts p.1 ∧ p.1.length ≤ 9 := by
  unfold m__law_text
  refine b_loopFp (fun ps t => t.2.length = ps.length ∧ ∀ s ∈ t.2, s.length ≤ 6) ⟨rfl, fun s hs => (by cases hs)⟩ (fun ps t x qs e ⟨i1, i2⟩ => ?_) fun t ⟨i1, i2⟩ => ok_some ⟨⟨?_, i2⟩, ?_⟩
  · have hx := rng_split e
    have hm := rng_mem.mp (show x ∈ rng 0 n by rw [e]; simp)
    refine b_take (by omega) fun v d a b => b_chkI (by dsimp only; omega) (b_compM (fun y => True) (fun t x _ => b_some (b_take (by omega) fun v d a b => b_at a (by simpa using b) fun w _ _ => ok_some ⟨_, _, rfl, trivial⟩)) fun ys d2 hl _ => ?_)
    dsimp only at hl ⊢
    rw [rng_len] at hl
    refine b_ok (P := fun q => q.1 = true → 0 < x) (ok_if (fun h => b_take (by omega) fun v d _ _ => ok_some fun _ => of_decide_eq_true h) fun _ => ok_some fun h => (by cases h)) fun q hq0 => ?_
    by_cases hq : q.1 = true
    · have hx0 := hq0 hq
      · rw [if_pos hq]
        refine b_bind (b_take hx0 fun v3 d3 a3 b3 => b_bind (b_at a3 (by dsimp only; omega) fun w hw _ => b_some (b_chkN (by omega) (ok_some ⟨?_, fun s hs => ?_⟩))))
        · simp only [List.length_append, List.length_singleton]; omega
        · rcases List.mem_append.mp hs with z | z
          · exact i2 s z
          · rw [List.mem_singleton.mp z]; exact i2 _ hw
    · rw [if_neg hq]
      refine b_some (b_chkN (by omega) (ok_some ⟨?_, fun s hs => ?_⟩))
      · simp only [List.length_append, List.length_singleton]; omega
      · rcases List.mem_append.mp hs with z | z
        · exact i2 s z
        · rw [List.mem_singleton.mp z]
          show ys.length ≤ 6
          omega
  · rw [rng_len] at i1; show t.2.length ≤ 10; omega
  · rw [rng_len] at i1; show t.2.length ≤ 9; omega
theorem table_ok (ds : List Int) {sc : Int} (h0 : 0 ≤ sc) : Ok (m__law_table ds sc) fun p => ∀ x ∈ p.1, 0 ≤ x.b := by
  unfold m__law_table
  refine b_some (b_chkN (by decide) (b_compD (fun x => 0 ≤ x.b) (fun t x _ => b_take (by omega) fun v d a b => ok_if (fun _ => b_take (by omega) fun v2 d2 a2 b2 => b_chkM (.inr ⟨by dsimp only; omega, by dsimp only; omega⟩) (ok_some fun y hy => ?_)) fun _ => ok_some fun y hy => (by cases hy)) fun ys t _ h => ok_some fun x hx => ?_))
  · have := Option.some.inj hy
    rw [← this]
    exact Int.mul_nonneg h0 a2
  · have e : cutL ys none (some 7) = ys.take 7 := by
      unfold cutL
      simp only [HT.sIx_none]
      rw [show HT.sIx ys.length ys.length (some (7 : Int)) = min 7 ys.length from HT.sIx_nat _ _ 7]
      show ((ys.drop 0).take (min 7 ys.length - 0)) = _
      rw [List.drop_zero, Nat.sub_zero]
      by_cases q : ys.length ≤ 7
      · rw [Nat.min_eq_right q, List.take_length, List.take_of_length_le q]
      · rw [Nat.min_eq_left (by omega)]
    have hx : x ∈ cutL ys none (some 7) := hx
    rw [e] at hx
    exact h x (List.mem_of_mem_take hx)
def scT (by_ : Int) (T : List (T2 Str Int)) : List (T2 Str Int) := T.map fun x => ⟨x.a, by_ * x.b⟩
section
variable {S : List (List Str)} {T : List (T2 Str Int)} {most by_ : Int} (hb : 0 < by_)
include hb
theorem mul_lt' {a b : Int} : by_ * a < by_ * b ↔ a < b := ⟨fun h => Int.lt_of_mul_lt_mul_left h (Int.le_of_lt hb), fun h => Int.mul_lt_mul_of_pos_left h hb⟩
theorem mul_eq' {a b : Int} : by_ * a = by_ * b ↔ a = b := ⟨fun h => Int.eq_of_mul_eq_mul_left (by omega) h, fun h => by rw [h]⟩
theorem best_sc {r : List Int} (h : BestR S T most r) : BestR S (scT by_ T) most r := ⟨h.1, fun z hz => by
  unfold scT
  rw [wr_scale, wr_scale, mul_lt' hb, mul_eq' hb]
  exact h.2 z hz⟩
omit hb in
theorem gain_sc (fs : List Int) (k : Int) : gain S (scT by_ T) fs k = by_ * gain S T fs k := by
  unfold gain scT
  rw [wr_scale, wr_scale, Int.mul_sub]
theorem cand_sc (fs : List Int) : cand S (scT by_ T) most fs = cand S T most fs := by
  unfold cand
  refine List.filter_congr fun k _ => ?_
  unfold candB
  rw [gain_sc]
  have : (0 < by_ * gain S T fs k) ↔ 0 < gain S T fs k := by
    have := mul_lt' hb (a := 0) (b := gain S T fs k)
    rwa [Int.mul_zero] at this
  rw [decide_eq_decide.mpr this]
theorem pick_sc (fs : List Int) : pick S (scT by_ T) most fs = pick S T most fs := by
  cases q : pick S T most fs with
  | none => rw [pick_none, cand_sc hb, pick_none.mp q]
  | some k =>
    obtain ⟨h1, h2, _⟩ := pick_some q
    refine pick_is (by rw [cand_sc hb]; exact h1) fun j hj => ?_
    rw [cand_sc hb] at hj
    rw [gain_sc, gain_sc, mul_lt' hb, mul_eq' hb]
    exact h2 j hj
theorem grd_sc (n : Nat) : ∀ fs, grd S (scT by_ T) most n fs = grd S T most n fs := by
  induction n with
  | zero => intro fs; rfl
  | succ n ih =>
    intro fs
    unfold grd
    rw [pick_sc hb]
    cases pick S T most fs with
    | none => rfl
    | some k => exact ih _
end
def txA : List (List Str) := [["the", "tide", "is", "up"], ["tide", "fire"], ["up", "at", "four"], ["fire"], []]
def tbA : List (T2 Str Int) := [⟨"fire", 3⟩, ⟨"four", 2⟩, ⟨"tide", 4⟩, ⟨"up", 1⟩]
theorem tsA : Ts txA := ⟨by decide, by decide⟩
theorem law_ok (ns : List Int) : Ok (m_law 5000 ns) fun v => v = true := by
  unfold m_law
  refine b_draws (by omega) (by omega) fun ds => b_cell fun c d1 => b_take (by omega) fun v1 d2 a1 b1 => b_at a1 (by simpa using b1) fun sc hsc _ => ?_
  have hsc0 : 0 ≤ sc := by
    have := emod_lt (a := if c < 0 then -c else c) (b := (10 ^ 20 : Int)) (by decide)
    simp only [List.mem_cons, List.not_mem_nil, or_false] at hsc
    omega
  refine b_loopM (fun _ => True) trivial (fun t x hx _ => ?_) fun t _ => b_outC ?_
  · have hx := rng_mem.mp hx
    refine b_at (by omega) (by simp; omega) fun m hm _ => ?_
    have hm : m = 9 ∨ m = 6 := by simpa using hm
    refine b_take (by omega) fun v d a b => b_ok (text_ok d a (by omega)) fun r9 ⟨hS, hS9⟩ => b_ok (table_ok r9.2 hsc0) fun r10 hT => b_take (by omega) fun v11 d11 a11 b11 => b_take (by omega) fun v12 d12 a12 b12 => b_take (by omega) fun v13 d13 a13 b13 => b_at a13 (by simpa using b13) fun most hmost _ => ?_
    have h0 : 0 ≤ most := by
      simp only [List.mem_cons, List.not_mem_nil, or_false] at hmost
      omega
    refine b_eq (bestright_ok hS hS9 h0) (b_ok (P := fun q => q.1 = false) (b_no rfl (b_ok (toldright_ok hS hT d13) fun r hr => ok_some (ndecT hr))) fun q hq => b_no hq (b_take (by omega) fun v19 d19 a19 b19 => b_some ?_))
    dsimp only
    have hby : 0 < 2 + v19 := by omega
    rw [compO_filter (cd := fun _ => true) (el := fun x : T2 Str Int => (⟨x.a, (2 + v19) * x.b⟩ : T2 Str Int)) r10.1 fun x _ => by
      rw [chkM_l (by omega) (by omega)]; rfl]
    rw [filt_true]
    obtain ⟨r, hb, eb⟩ := best_ok (T := r10.1) hS h0
    obtain ⟨r2, hb2, eb2⟩ := best_ok (T := scT (2 + v19) r10.1) hS h0
    have er := best_one hb2 (best_sc hby hb)
    subst er
    refine b_some (b_eq eb (b_eq eb2 (b_chkM (.inl ⟨by omega, by omega⟩) ?_)))
    refine b_ok (P := fun v => v = false) (b_no (ndecE ?_) (b_eq (greedy_ok (T := scT (2 + v19) r10.1) hS) (b_eq (greedy_ok hS) (ok_some (ndecE ?_))))) fun v hv => b_no hv (ok_some ⟨_, rfl, trivial⟩)
    · show (⟨wr r9.1 (scT (2 + v19) r10.1) r2, r2⟩ : T2 Int (List Int)) = ⟨(2 + v19) * wr r9.1 r10.1 r2, r2⟩
      unfold scT
      rw [wr_scale]
    · unfold fin
      rw [grd_sc hby]
  · have e1 : m_best_brief txA tbA 5 = some ⟨10, [1, 2]⟩ := by decide +kernel
    have e2 : m_greedy_brief 5000 txA tbA 4 = some [1] := by
      rw [greedy_ok tsA, sortE_ins]; decide +kernel
    have e3 : m_best_brief txA tbA 2 = some ⟨7, [1]⟩ := by decide +kernel
    refine b_some (b_some (b_eq e1 (b_ok (P := fun v => v = false) (b_no (by decide +kernel) (b_eq e2 (b_or (by decide +kernel) (b_bind (b_eq e3 (b_some (ok_some (by decide +kernel)))))))) fun v hv => b_no hv ?_)))
    have e4 : m_needless_in txA tbA [0, 1, 3] = some [1, 3] := by decide +kernel
    have e5 : m_first_sentences txA 6 = some [0, 1] := by decide +kernel
    have e6 : m_words_in_brief txA [0, 2] = some 7 := by decide +kernel
    refine b_eq e4 (b_ok (P := fun v => v = false) (b_no (by decide +kernel) (b_eq e5 (b_or (by decide +kernel) (b_bind (b_eq e6 (b_some (ok_some (by decide +kernel)))))))) fun v hv => b_no hv ?_)
    have e7 : m_best_brief [] tbA 0 = some ⟨0, []⟩ := by decide +kernel
    have e8 : m_worth_of_brief txA [] [0, 1] = some 0 := by decide +kernel
    have e9 : m_first_sentences [[], []] 0 = some [0, 1] := by decide +kernel
    exact b_eq e7 (b_ok (P := fun v => v = true) (b_yes (by decide +kernel) (b_eq e8 (b_and (by decide +kernel) (b_bind (b_eq e9 (b_some (ok_some (by decide +kernel)))))))) fun v hv => ok_some hv)
theorem law_true (ns : List Int) (_hn : ns.length ≤ 63) : C_law [.bor (.lst (ns.map Enc.enc))] (.dat (en true)) [.un] := by
  obtain ⟨v, e, rfl⟩ := law_ok ns
  exact ⟨5000, ns, true, e, rfl, rfl, rfl⟩
end Pw
namespace Pw
open PySem PySem.Spec L2
theorem all_mk {l : PySem.W.OpenLaw} {w : World} {K : PySem.W.Frag} {h : Heap} {mg : Str → Option Value} {fa f0 f1 f2 f3 f4 f5 f6 f7 f8 f9 f10 f11 f12 f13 f14 f15 f16 f17 f18 f19 : Addr} (X : K.In h) (G : h.Ns mainGlobals mg) (hfa : mg "law" = some (.ref fa))
    {od0 an0 : Option Addr} {sl0 : Array (Option Value)} {oc0 kV0 dc0 pm0 cd0 ct0 : Value}
    (a0 : PySem.W.nsIn K mainGlobals "_law_same" = some (some (.ref f0))) (l0 : K.lookup f0 = some ⟨oc0, od0, .func (PySem.W.fnOf "_law_same" "_law_same" (defArgs (topS 12)) (defBody (topS 12)) (defScope (topS 12)) .none kV0 dc0 pm0 an0 cd0 ct0), sl0⟩) (c0 : PySem.W.codeIn K cd0 "_law_same" = true) (k0 : PySem.W.keepIn K (.ref f0) = true)
    {od1 an1 : Option Addr} {sl1 : Array (Option Value)} {oc1 kV1 dc1 pm1 cd1 ct1 : Value}
    (a1 : PySem.W.nsIn K mainGlobals "_law_draws" = some (some (.ref f1))) (l1 : K.lookup f1 = some ⟨oc1, od1, .func (PySem.W.fnOf "_law_draws" "_law_draws" (defArgs (topS 9)) (defBody (topS 9)) (defScope (topS 9)) .none kV1 dc1 pm1 an1 cd1 ct1), sl1⟩) (c1 : PySem.W.codeIn K cd1 "_law_draws" = true) (k1 : PySem.W.keepIn K (.ref f1) = true)
    {od2 an2 : Option Addr} {sl2 : Array (Option Value)} {oc2 kV2 dc2 pm2 cd2 ct2 : Value}
    (a2 : PySem.W.nsIn K mainGlobals "_law_take" = some (some (.ref f2))) (l2 : K.lookup f2 = some ⟨oc2, od2, .func (PySem.W.fnOf "_law_take" "_law_take" (defArgs (topS 10)) (defBody (topS 10)) (defScope (topS 10)) .none kV2 dc2 pm2 an2 cd2 ct2), sl2⟩) (c2 : PySem.W.codeIn K cd2 "_law_take" = true) (k2 : PySem.W.keepIn K (.ref f2) = true)
    {od3 an3 : Option Addr} {sl3 : Array (Option Value)} {oc3 kV3 dc3 pm3 cd3 ct3 : Value}
    (a3 : PySem.W.nsIn K mainGlobals "_law_words" = some (some (.ref f3))) (l3 : K.lookup f3 = some ⟨oc3, od3, .func (PySem.W.fnOf "_law_words" "_law_words" (defArgs (topS 13)) (defBody (topS 13)) (defScope (topS 13)) .none kV3 dc3 pm3 an3 cd3 ct3), sl3⟩) (c3 : PySem.W.codeIn K cd3 "_law_words" = true) (k3 : PySem.W.keepIn K (.ref f3) = true)
    {od4 an4 : Option Addr} {sl4 : Array (Option Value)} {oc4 kV4 dc4 pm4 cd4 ct4 : Value}
    (a4 : PySem.W.nsIn K mainGlobals "_law_text" = some (some (.ref f4))) (l4 : K.lookup f4 = some ⟨oc4, od4, .func (PySem.W.fnOf "_law_text" "_law_text" (defArgs (topS 14)) (defBody (topS 14)) (defScope (topS 14)) .none kV4 dc4 pm4 an4 cd4 ct4), sl4⟩) (c4 : PySem.W.codeIn K cd4 "_law_text" = true) (k4 : PySem.W.keepIn K (.ref f4) = true)
    {od5 an5 : Option Addr} {sl5 : Array (Option Value)} {oc5 kV5 dc5 pm5 cd5 ct5 : Value}
    (a5 : PySem.W.nsIn K mainGlobals "_law_table" = some (some (.ref f5))) (l5 : K.lookup f5 = some ⟨oc5, od5, .func (PySem.W.fnOf "_law_table" "_law_table" (defArgs (topS 15)) (defBody (topS 15)) (defScope (topS 15)) .none kV5 dc5 pm5 an5 cd5 ct5), sl5⟩) (c5 : PySem.W.codeIn K cd5 "_law_table" = true) (k5 : PySem.W.keepIn K (.ref f5) = true)
    {od6 an6 : Option Addr} {sl6 : Array (Option Value)} {oc6 kV6 dc6 pm6 cd6 ct6 : Value}
    (a6 : PySem.W.nsIn K mainGlobals "all_sets" = some (some (.ref f6))) (l6 : K.lookup f6 = some ⟨oc6, od6, .func (PySem.W.fnOf "all_sets" "all_sets" (defArgs (topS 3)) (defBody (topS 3)) (defScope (topS 3)) .none kV6 dc6 pm6 an6 cd6 ct6), sl6⟩) (c6 : PySem.W.codeIn K cd6 "all_sets" = true) (k6 : PySem.W.keepIn K (.ref f6) = true)
    {od7 an7 : Option Addr} {sl7 : Array (Option Value)} {oc7 kV7 dc7 pm7 cd7 ct7 : Value}
    (a7 : PySem.W.nsIn K mainGlobals "words_in_brief" = some (some (.ref f7))) (l7 : K.lookup f7 = some ⟨oc7, od7, .func (PySem.W.fnOf "words_in_brief" "words_in_brief" (defArgs (topS 2)) (defBody (topS 2)) (defScope (topS 2)) .none kV7 dc7 pm7 an7 cd7 ct7), sl7⟩) (c7 : PySem.W.codeIn K cd7 "words_in_brief" = true) (k7 : PySem.W.keepIn K (.ref f7) = true)
    {od8 an8 : Option Addr} {sl8 : Array (Option Value)} {oc8 kV8 dc8 pm8 cd8 ct8 : Value}
    (a8 : PySem.W.nsIn K mainGlobals "worth_of_brief" = some (some (.ref f8))) (l8 : K.lookup f8 = some ⟨oc8, od8, .func (PySem.W.fnOf "worth_of_brief" "worth_of_brief" (defArgs (topS 1)) (defBody (topS 1)) (defScope (topS 1)) .none kV8 dc8 pm8 an8 cd8 ct8), sl8⟩) (c8 : PySem.W.codeIn K cd8 "worth_of_brief" = true) (k8 : PySem.W.keepIn K (.ref f8) = true)
    {od9 an9 : Option Addr} {sl9 : Array (Option Value)} {oc9 kV9 dc9 pm9 cd9 ct9 : Value}
    (a9 : PySem.W.nsIn K mainGlobals "best_brief" = some (some (.ref f9))) (l9 : K.lookup f9 = some ⟨oc9, od9, .func (PySem.W.fnOf "best_brief" "best_brief" (defArgs (topS 4)) (defBody (topS 4)) (defScope (topS 4)) .none kV9 dc9 pm9 an9 cd9 ct9), sl9⟩) (c9 : PySem.W.codeIn K cd9 "best_brief" = true) (k9 : PySem.W.keepIn K (.ref f9) = true)
    {od10 an10 : Option Addr} {sl10 : Array (Option Value)} {oc10 kV10 dc10 pm10 cd10 ct10 : Value}
    (a10 : PySem.W.nsIn K mainGlobals "first_sentences" = some (some (.ref f10))) (l10 : K.lookup f10 = some ⟨oc10, od10, .func (PySem.W.fnOf "first_sentences" "first_sentences" (defArgs (topS 7)) (defBody (topS 7)) (defScope (topS 7)) .none kV10 dc10 pm10 an10 cd10 ct10), sl10⟩) (c10 : PySem.W.codeIn K cd10 "first_sentences" = true) (k10 : PySem.W.keepIn K (.ref f10) = true)
    {od11 an11 : Option Addr} {sl11 : Array (Option Value)} {oc11 kV11 dc11 pm11 cd11 ct11 : Value}
    (a11 : PySem.W.nsIn K mainGlobals "_law_worth" = some (some (.ref f11))) (l11 : K.lookup f11 = some ⟨oc11, od11, .func (PySem.W.fnOf "_law_worth" "_law_worth" (defArgs (topS 16)) (defBody (topS 16)) (defScope (topS 16)) .none kV11 dc11 pm11 an11 cd11 ct11), sl11⟩) (c11 : PySem.W.codeIn K cd11 "_law_worth" = true) (k11 : PySem.W.keepIn K (.ref f11) = true)
    {od12 an12 : Option Addr} {sl12 : Array (Option Value)} {oc12 kV12 dc12 pm12 cd12 ct12 : Value}
    (a12 : PySem.W.nsIn K mainGlobals "_law_long" = some (some (.ref f12))) (l12 : K.lookup f12 = some ⟨oc12, od12, .func (PySem.W.fnOf "_law_long" "_law_long" (defArgs (topS 17)) (defBody (topS 17)) (defScope (topS 17)) .none kV12 dc12 pm12 an12 cd12 ct12), sl12⟩) (c12 : PySem.W.codeIn K cd12 "_law_long" = true) (k12 : PySem.W.keepIn K (.ref f12) = true)
    {od13 an13 : Option Addr} {sl13 : Array (Option Value)} {oc13 kV13 dc13 pm13 cd13 ct13 : Value}
    (a13 : PySem.W.nsIn K mainGlobals "_law_greedy" = some (some (.ref f13))) (l13 : K.lookup f13 = some ⟨oc13, od13, .func (PySem.W.fnOf "_law_greedy" "_law_greedy" (defArgs (topS 18)) (defBody (topS 18)) (defScope (topS 18)) .none kV13 dc13 pm13 an13 cd13 ct13), sl13⟩) (c13 : PySem.W.codeIn K cd13 "_law_greedy" = true) (k13 : PySem.W.keepIn K (.ref f13) = true)
    {od14 an14 : Option Addr} {sl14 : Array (Option Value)} {oc14 kV14 dc14 pm14 cd14 ct14 : Value}
    (a14 : PySem.W.nsIn K mainGlobals "greedy_brief" = some (some (.ref f14))) (l14 : K.lookup f14 = some ⟨oc14, od14, .func (PySem.W.fnOf "greedy_brief" "greedy_brief" (defArgs (topS 5)) (defBody (topS 5)) (defScope (topS 5)) .none kV14 dc14 pm14 an14 cd14 ct14), sl14⟩) (c14 : PySem.W.codeIn K cd14 "greedy_brief" = true) (k14 : PySem.W.keepIn K (.ref f14) = true)
    {od15 an15 : Option Addr} {sl15 : Array (Option Value)} {oc15 kV15 dc15 pm15 cd15 ct15 : Value}
    (a15 : PySem.W.nsIn K mainGlobals "_law_is_best_right" = some (some (.ref f15))) (l15 : K.lookup f15 = some ⟨oc15, od15, .func (PySem.W.fnOf "_law_is_best_right" "_law_is_best_right" (defArgs (topS 19)) (defBody (topS 19)) (defScope (topS 19)) .none kV15 dc15 pm15 an15 cd15 ct15), sl15⟩) (c15 : PySem.W.codeIn K cd15 "_law_is_best_right" = true) (k15 : PySem.W.keepIn K (.ref f15) = true)
    {od16 an16 : Option Addr} {sl16 : Array (Option Value)} {oc16 kV16 dc16 pm16 cd16 ct16 : Value}
    (a16 : PySem.W.nsIn K mainGlobals "needless_in" = some (some (.ref f16))) (l16 : K.lookup f16 = some ⟨oc16, od16, .func (PySem.W.fnOf "needless_in" "needless_in" (defArgs (topS 6)) (defBody (topS 6)) (defScope (topS 6)) .none kV16 dc16 pm16 an16 cd16 ct16), sl16⟩) (c16 : PySem.W.codeIn K cd16 "needless_in" = true) (k16 : PySem.W.keepIn K (.ref f16) = true)
    {od17 an17 : Option Addr} {sl17 : Array (Option Value)} {oc17 kV17 dc17 pm17 cd17 ct17 : Value}
    (a17 : PySem.W.nsIn K mainGlobals "_law_is_told_right" = some (some (.ref f17))) (l17 : K.lookup f17 = some ⟨oc17, od17, .func (PySem.W.fnOf "_law_is_told_right" "_law_is_told_right" (defArgs (topS 20)) (defBody (topS 20)) (defScope (topS 20)) .none kV17 dc17 pm17 an17 cd17 ct17), sl17⟩) (c17 : PySem.W.codeIn K cd17 "_law_is_told_right" = true) (k17 : PySem.W.keepIn K (.ref f17) = true)
    {od18 an18 : Option Addr} {sl18 : Array (Option Value)} {oc18 kV18 dc18 pm18 cd18 ct18 : Value}
    (a18 : PySem.W.nsIn K mainGlobals "_law_cell" = some (some (.ref f18))) (l18 : K.lookup f18 = some ⟨oc18, od18, .func (PySem.W.fnOf "_law_cell" "_law_cell" (defArgs (topS 11)) (defBody (topS 11)) (defScope (topS 11)) .none kV18 dc18 pm18 an18 cd18 ct18), sl18⟩) (c18 : PySem.W.codeIn K cd18 "_law_cell" = true) (k18 : PySem.W.keepIn K (.ref f18) = true)
    {od19 an19 : Option Addr} {sl19 : Array (Option Value)} {oc19 kV19 dc19 pm19 cd19 ct19 : Value}
    (a19 : PySem.W.nsIn K mainGlobals "law" = some (some (.ref f19))) (l19 : K.lookup f19 = some ⟨oc19, od19, .func (PySem.W.fnOf "law" "law" (defArgs (topS 21)) (defBody (topS 21)) (defScope (topS 21)) .none kV19 dc19 pm19 an19 cd19 ct19), sl19⟩) (c19 : PySem.W.codeIn K cd19 "law" = true) (k19 : PySem.W.keepIn K (.ref f19) = true)
    (z0 : PySem.W.nsIn K mainGlobals "isinstance" = some none)
    (z1 : PySem.W.nsIn K mainGlobals "bool" = some none)
    (z2 : PySem.W.nsIn K mainGlobals "int" = some none)
    (z3 : PySem.W.nsIn K mainGlobals "str" = some none)
    (z4 : PySem.W.nsIn K mainGlobals "tuple" = some none)
    (z5 : PySem.W.nsIn K mainGlobals "len" = some none)
    (z6 : PySem.W.nsIn K mainGlobals "range" = some none)
    (z7 : PySem.W.nsIn K mainGlobals "list" = some none)
    (z8 : PySem.W.nsIn K mainGlobals "sum" = some none)
    (z9 : PySem.W.nsIn K mainGlobals "min" = some none)
    (z10 : PySem.W.nsIn K mainGlobals "sorted" = some none)
    (z11 : PySem.W.nsIn K mainGlobals "max" = some none)
    (z12 : PySem.W.nsIn K mainGlobals "set" = some none)
    (z13 : PySem.W.nsIn K mainGlobals "abs" = some none)
    : ∃ fd : FuncData, (∀ (s : Shared) (v : Value), BindsTo s fd ⟨[v], []⟩ [("script", v)]) ∧ ∀ base : Heap, K.In base → base.Ns mainGlobals mg → FnOk l.prog w K mg base CX0 11 fa fd ["script"] (spC K 1 C_law) := by
  have e := hfa.symm.trans (PySem.W.mg_of X G a19)
  cases e
  have F0 := fun_mk (st := topS 12) l0 c0 k0
  have B0 := F0.binds (ps := ["actual", "due"]) fun _ _ _ _ _ _ us hl => match us, hl with | [_, _], _ => rfl
  have F1 := fun_mk (st := topS 9) l1 c1 k1
  have B1 := F1.binds (ps := ["script", "many"]) fun _ _ _ _ _ _ us hl => match us, hl with | [_, _], _ => rfl
  have F2 := fun_mk (st := topS 10) l2 c2 k2
  have B2 := F2.binds (ps := ["draws", "many"]) fun _ _ _ _ _ _ us hl => match us, hl with | [_, _], _ => rfl
  have F3 := fun_mk (st := topS 13) l3 c3 k3
  have B3 := F3.binds (ps := []) fun _ _ _ _ _ _ us hl => match us, hl with | [], _ => rfl
  have F4 := fun_mk (st := topS 14) l4 c4 k4
  have B4 := F4.binds (ps := ["draws", "many"]) fun _ _ _ _ _ _ us hl => match us, hl with | [_, _], _ => rfl
  have F5 := fun_mk (st := topS 15) l5 c5 k5
  have B5 := F5.binds (ps := ["draws", "scale"]) fun _ _ _ _ _ _ us hl => match us, hl with | [_, _], _ => rfl
  have F6 := fun_mk (st := topS 3) l6 c6 k6
  have B6 := F6.binds (ps := ["many"]) fun _ _ _ _ _ _ us hl => match us, hl with | [_], _ => rfl
  have F7 := fun_mk (st := topS 2) l7 c7 k7
  have B7 := F7.binds (ps := ["sentences", "told"]) fun _ _ _ _ _ _ us hl => match us, hl with | [_, _], _ => rfl
  have F8 := fun_mk (st := topS 1) l8 c8 k8
  have B8 := F8.binds (ps := ["sentences", "table", "told"]) fun _ _ _ _ _ _ us hl => match us, hl with | [_, _, _], _ => rfl
  have F9 := fun_mk (st := topS 4) l9 c9 k9
  have B9 := F9.binds (ps := ["sentences", "table", "most"]) fun _ _ _ _ _ _ us hl => match us, hl with | [_, _, _], _ => rfl
  have F10 := fun_mk (st := topS 7) l10 c10 k10
  have B10 := F10.binds (ps := ["sentences", "most"]) fun _ _ _ _ _ _ us hl => match us, hl with | [_, _], _ => rfl
  have F11 := fun_mk (st := topS 16) l11 c11 k11
  have B11 := F11.binds (ps := ["sentences", "table", "told"]) fun _ _ _ _ _ _ us hl => match us, hl with | [_, _, _], _ => rfl
  have F12 := fun_mk (st := topS 17) l12 c12 k12
  have B12 := F12.binds (ps := ["sentences", "told"]) fun _ _ _ _ _ _ us hl => match us, hl with | [_, _], _ => rfl
  have F13 := fun_mk (st := topS 18) l13 c13 k13
  have B13 := F13.binds (ps := ["sentences", "table", "most"]) fun _ _ _ _ _ _ us hl => match us, hl with | [_, _, _], _ => rfl
  have F14 := fun_mk (st := topS 5) l14 c14 k14
  have B14 := F14.binds (ps := ["sentences", "table", "most"]) fun _ _ _ _ _ _ us hl => match us, hl with | [_, _, _], _ => rfl
  have F15 := fun_mk (st := topS 19) l15 c15 k15
  have B15 := F15.binds (ps := ["sentences", "table", "most"]) fun _ _ _ _ _ _ us hl => match us, hl with | [_, _, _], _ => rfl
  have F16 := fun_mk (st := topS 6) l16 c16 k16
  have B16 := F16.binds (ps := ["sentences", "table", "told"]) fun _ _ _ _ _ _ us hl => match us, hl with | [_, _, _], _ => rfl
  have F17 := fun_mk (st := topS 20) l17 c17 k17
  have B17 := F17.binds (ps := ["draws", "sentences", "table"]) fun _ _ _ _ _ _ us hl => match us, hl with | [_, _, _], _ => rfl
  have F18 := fun_mk (st := topS 11) l18 c18 k18
  have B18 := F18.binds (ps := ["script", "draws"]) fun _ _ _ _ _ _ us hl => match us, hl with | [_, _], _ => rfl
  have F19 := fun_mk (st := topS 21) l19 c19 k19
  have Z0 := PySem.W.mg_none_of X G z0
  have Z1 := PySem.W.mg_none_of X G z1
  have Z2 := PySem.W.mg_none_of X G z2
  have Z3 := PySem.W.mg_none_of X G z3
  have Z4 := PySem.W.mg_none_of X G z4
  have Z5 := PySem.W.mg_none_of X G z5
  have Z6 := PySem.W.mg_none_of X G z6
  have Z7 := PySem.W.mg_none_of X G z7
  have Z8 := PySem.W.mg_none_of X G z8
  have Z9 := PySem.W.mg_none_of X G z9
  have Z10 := PySem.W.mg_none_of X G z10
  have Z11 := PySem.W.mg_none_of X G z11
  have Z12 := PySem.W.mg_none_of X G z12
  have Z13 := PySem.W.mg_none_of X G z13
  refine ⟨PySem.W.fnOf "law" "law" (defArgs (topS 21)) (defBody (topS 21)) (defScope (topS 21)) .none kV19 dc19 pm19 an19 cd19 ct19, fun s v => .of_eq rfl, fun base _ _ => ?_⟩
  have H0 : Has l.prog w K mg base 9 "_law_same" 2 (sameC 8) := h_same F0 (PySem.W.mg_of X G a0) B0 (fun x hx => by have hx : x ∈ (["isinstance", "bool", "int", "str", "tuple", "len", "range"] : List Str) := hx; exact (by cases hx with | head => exact Z0 | tail _ hx => exact (by cases hx with | head => exact Z1 | tail _ hx => exact (by cases hx with | head => exact Z2 | tail _ hx => exact (by cases hx with | head => exact Z3 | tail _ hx => exact (by cases hx with | head => exact Z4 | tail _ hx => exact (by cases hx with | head => exact Z5 | tail _ hx => exact (by cases hx with | head => exact Z6 | tail _ hx => exact (by cases hx))))))))) 8
  have H1 : Has l.prog w K mg base 1 "_law_draws" 2 C__law_draws := h__law_draws (k := 0) F1 (PySem.W.mg_of X G a1) B1 (fun x hx => by have hx : x ∈ (["list", "range", "int", "len"] : List Str) := hx; exact (by cases hx with | head => exact Z7 | tail _ hx => exact (by cases hx with | head => exact Z6 | tail _ hx => exact (by cases hx with | head => exact Z2 | tail _ hx => exact (by cases hx with | head => exact Z5 | tail _ hx => exact (by cases hx)))))) 
  have H2 : Has l.prog w K mg base 1 "_law_take" 2 C__law_take := h__law_take (k := 0) F2 (PySem.W.mg_of X G a2) B2 (fun x hx => by have hx : x ∈ (["len", "int"] : List Str) := hx; exact (by cases hx with | head => exact Z5 | tail _ hx => exact (by cases hx with | head => exact Z2 | tail _ hx => exact (by cases hx)))) 
  have H3 : Has l.prog w K mg base 1 "_law_words" 0 C__law_words := h__law_words (k := 0) F3 (PySem.W.mg_of X G a3) B3 (fun x hx => by have hx : x ∈ ([] : List Str) := hx; exact (by cases hx)) 
  have H4 : Has l.prog w K mg base 2 "_law_text" 2 C__law_text := h__law_text (k := 1) F4 (PySem.W.mg_of X G a4) B4 (fun x hx => by have hx : x ∈ (["range", "tuple"] : List Str) := hx; exact (by cases hx with | head => exact Z6 | tail _ hx => exact (by cases hx with | head => exact Z4 | tail _ hx => exact (by cases hx)))) (H2.mono (by decide)) (H3.mono (by decide))
  have H5 : Has l.prog w K mg base 2 "_law_table" 2 C__law_table := h__law_table (k := 1) F5 (PySem.W.mg_of X G a5) B5 (fun x hx => by have hx : x ∈ (["tuple"] : List Str) := hx; exact (by cases hx with | head => exact Z4 | tail _ hx => exact (by cases hx))) (H3.mono (by decide)) (H2.mono (by decide))
  have H6 : Has l.prog w K mg base 1 "all_sets" 1 C_all_sets := h_all_sets (k := 0) F6 (PySem.W.mg_of X G a6) B6 (fun x hx => by have hx : x ∈ (["range"] : List Str) := hx; exact (by cases hx with | head => exact Z6 | tail _ hx => exact (by cases hx))) 
  have H7 : Has l.prog w K mg base 1 "words_in_brief" 2 C_words_in_brief := h_words_in_brief (k := 0) F7 (PySem.W.mg_of X G a7) B7 (fun x hx => by have hx : x ∈ (["sum", "len"] : List Str) := hx; exact (by cases hx with | head => exact Z8 | tail _ hx => exact (by cases hx with | head => exact Z5 | tail _ hx => exact (by cases hx)))) 
  have H8 : Has l.prog w K mg base 1 "worth_of_brief" 3 C_worth_of_brief := h_worth_of_brief (k := 0) F8 (PySem.W.mg_of X G a8) B8 (fun x hx => by have hx : x ∈ (["sum"] : List Str) := hx; exact (by cases hx with | head => exact Z8 | tail _ hx => exact (by cases hx))) 
  have H9 : Has l.prog w K mg base 2 "best_brief" 3 C_best_brief := h_best_brief (k := 1) F9 (PySem.W.mg_of X G a9) B9 (fun x hx => by have hx : x ∈ (["min", "len"] : List Str) := hx; exact (by cases hx with | head => exact Z9 | tail _ hx => exact (by cases hx with | head => exact Z5 | tail _ hx => exact (by cases hx)))) (H6.mono (by decide)) (H7.mono (by decide)) (H8.mono (by decide))
  have H10 : Has l.prog w K mg base 2 "first_sentences" 2 C_first_sentences := h_first_sentences (k := 1) F10 (PySem.W.mg_of X G a10) B10 (fun x hx => by have hx : x ∈ (["range", "len"] : List Str) := hx; exact (by cases hx with | head => exact Z6 | tail _ hx => exact (by cases hx with | head => exact Z5 | tail _ hx => exact (by cases hx)))) (H7.mono (by decide))
  have H11 : Has l.prog w K mg base 1 "_law_worth" 3 C__law_worth := h__law_worth (k := 0) F11 (PySem.W.mg_of X G a11) B11 (fun x hx => by have hx : x ∈ (["sum", "list"] : List Str) := hx; exact (by cases hx with | head => exact Z8 | tail _ hx => exact (by cases hx with | head => exact Z7 | tail _ hx => exact (by cases hx)))) 
  have H12 : Has l.prog w K mg base 1 "_law_long" 2 C__law_long := h__law_long (k := 0) F12 (PySem.W.mg_of X G a12) B12 (fun x hx => by have hx : x ∈ (["sum", "len"] : List Str) := hx; exact (by cases hx with | head => exact Z8 | tail _ hx => exact (by cases hx with | head => exact Z5 | tail _ hx => exact (by cases hx)))) 
  have H13 : Has l.prog w K mg base 2 "_law_greedy" 3 C__law_greedy := h__law_greedy (k := 1) F13 (PySem.W.mg_of X G a13) B13 (fun x hx => by have hx : x ∈ (["range", "tuple", "len", "sorted"] : List Str) := hx; exact (by cases hx with | head => exact Z6 | tail _ hx => exact (by cases hx with | head => exact Z4 | tail _ hx => exact (by cases hx with | head => exact Z5 | tail _ hx => exact (by cases hx with | head => exact Z10 | tail _ hx => exact (by cases hx)))))) (H11.mono (by decide)) (H12.mono (by decide))
  have H14 : Has l.prog w K mg base 2 "greedy_brief" 3 C_greedy_brief := h_greedy_brief (k := 1) F14 (PySem.W.mg_of X G a14) B14 (fun x hx => by have hx : x ∈ (["range", "len", "tuple", "sorted", "min"] : List Str) := hx; exact (by cases hx with | head => exact Z6 | tail _ hx => exact (by cases hx with | head => exact Z5 | tail _ hx => exact (by cases hx with | head => exact Z4 | tail _ hx => exact (by cases hx with | head => exact Z10 | tail _ hx => exact (by cases hx with | head => exact Z9 | tail _ hx => exact (by cases hx))))))) (H8.mono (by decide)) (H7.mono (by decide))
  have H15 : Has l.prog w K mg base 10 "_law_is_best_right" 3 C__law_is_best_right := h__law_is_best_right (k := 9) F15 (PySem.W.mg_of X G a15) B15 (fun x hx => by have hx : x ∈ (["range", "max", "min", "len", "tuple", "list"] : List Str) := hx; exact (by cases hx with | head => exact Z6 | tail _ hx => exact (by cases hx with | head => exact Z11 | tail _ hx => exact (by cases hx with | head => exact Z9 | tail _ hx => exact (by cases hx with | head => exact Z5 | tail _ hx => exact (by cases hx with | head => exact Z4 | tail _ hx => exact (by cases hx with | head => exact Z7 | tail _ hx => exact (by cases hx)))))))) (H13.mono (by decide)) (H0.mono (by decide)) (H10.mono (by decide)) (H11.mono (by decide)) (H12.mono (by decide)) (H9.mono (by decide)) (H14.mono (by decide))
  have H16 : Has l.prog w K mg base 2 "needless_in" 3 C_needless_in := h_needless_in (k := 1) F16 (PySem.W.mg_of X G a16) B16 (fun x hx => by have hx : x ∈ (["tuple"] : List Str) := hx; exact (by cases hx with | head => exact Z4 | tail _ hx => exact (by cases hx))) (H8.mono (by decide))
  have H17 : Has l.prog w K mg base 10 "_law_is_told_right" 3 C__law_is_told_right := h__law_is_told_right (k := 9) F17 (PySem.W.mg_of X G a17) B17 (fun x hx => by have hx : x ∈ (["range", "tuple", "sorted", "set", "len"] : List Str) := hx; exact (by cases hx with | head => exact Z6 | tail _ hx => exact (by cases hx with | head => exact Z4 | tail _ hx => exact (by cases hx with | head => exact Z10 | tail _ hx => exact (by cases hx with | head => exact Z12 | tail _ hx => exact (by cases hx with | head => exact Z5 | tail _ hx => exact (by cases hx))))))) (H11.mono (by decide)) (H0.mono (by decide)) (H16.mono (by decide)) (H8.mono (by decide)) (H7.mono (by decide)) (H12.mono (by decide)) (H2.mono (by decide))
  have H18 : Has l.prog w K mg base 2 "_law_cell" 2 C__law_cell := h__law_cell (k := 1) F18 (PySem.W.mg_of X G a18) B18 (fun x hx => by have hx : x ∈ (["int", "len", "abs"] : List Str) := hx; exact (by cases hx with | head => exact Z2 | tail _ hx => exact (by cases hx with | head => exact Z5 | tail _ hx => exact (by cases hx with | head => exact Z13 | tail _ hx => exact (by cases hx))))) (H2.mono (by decide))
  exact h_law (k := 10) F19 hfa (fun x hx => by have hx : x ∈ (["range", "tuple", "abs"] : List Str) := hx; exact (by cases hx with | head => exact Z6 | tail _ hx => exact (by cases hx with | head => exact Z4 | tail _ hx => exact (by cases hx with | head => exact Z13 | tail _ hx => exact (by cases hx))))) (H1.mono (by decide)) (H2.mono (by decide)) (H4.mono (by decide)) (H5.mono (by decide)) (H9.mono (by decide)) (H0.mono (by decide)) (H8.mono (by decide)) (H10.mono (by decide)) (H15.mono (by decide)) (H17.mono (by decide)) (H14.mono (by decide)) (H16.mono (by decide)) (H7.mono (by decide)) (H18.mono (by decide))
end Pw
open PySem PySem.W PyProof.Rows
set_option maxHeartbeats 0 in
theorem PySem.Challenge.cw_sentintime_k94_briefs_of_texts_holds : PySem.Challenge.rw_sentintime_k94_briefs_of_texts.Holds := by
  w_on; o_law; k_head; (case hw => w_witness2)
  k_fill
  refine L2.walk_of (l := PySem.Challenge.rw_sentintime_k94_briefs_of_texts) (n := 63) (k := 11) (x := "script") (CX := fun _ => L2.CX0) (sp := fun w => Pw.spC _ 1 Pw.C_law) rfl (by decide) rfl ⟨rfl, by decide, by decide⟩ (fun w h Y => PySem.W.kIn_of Y) ?F (fun _ H a ns hl _ hS => Pw.sp_law Pw.law_true hl hS) (fun _ _ _ _ _ h => h)
  case F =>
    intro w mg fa h KX G hmg
    refine' Pw.all_mk KX G hmg ?a0 ?l0 ?c0 ?k0 ?a1 ?l1 ?c1 ?k1 ?a2 ?l2 ?c2 ?k2 ?a3 ?l3 ?c3 ?k3 ?a4 ?l4 ?c4 ?k4 ?a5 ?l5 ?c5 ?k5 ?a6 ?l6 ?c6 ?k6 ?a7 ?l7 ?c7 ?k7 ?a8 ?l8 ?c8 ?k8 ?a9 ?l9 ?c9 ?k9 ?a10 ?l10 ?c10 ?k10 ?a11 ?l11 ?c11 ?k11 ?a12 ?l12 ?c12 ?k12 ?a13 ?l13 ?c13 ?k13 ?a14 ?l14 ?c14 ?k14 ?a15 ?l15 ?c15 ?k15 ?a16 ?l16 ?c16 ?k16 ?a17 ?l17 ?c17 ?k17 ?a18 ?l18 ?c18 ?k18 ?a19 ?l19 ?c19 ?k19 ?z0 ?z1 ?z2 ?z3 ?z4 ?z5 ?z6 ?z7 ?z8 ?z9 ?z10 ?z11 ?z12 ?z13
    (case a0 => k_is); (case l0 => k_is); (case c0 => k_is); (case k0 => k_is); (case a1 => k_is); (case l1 => k_is); (case c1 => k_is); (case k1 => k_is); (case a2 => k_is); (case l2 => k_is); (case c2 => k_is); (case k2 => k_is); (case a3 => k_is); (case l3 => k_is); (case c3 => k_is); (case k3 => k_is); (case a4 => k_is); (case l4 => k_is); (case c4 => k_is); (case k4 => k_is); (case a5 => k_is); (case l5 => k_is); (case c5 => k_is); (case k5 => k_is); (case a6 => k_is); (case l6 => k_is); (case c6 => k_is); (case k6 => k_is); (case a7 => k_is); (case l7 => k_is); (case c7 => k_is); (case k7 => k_is); (case a8 => k_is); (case l8 => k_is); (case c8 => k_is); (case k8 => k_is); (case a9 => k_is); (case l9 => k_is); (case c9 => k_is); (case k9 => k_is); (case a10 => k_is); (case l10 => k_is); (case c10 => k_is); (case k10 => k_is); (case a11 => k_is); (case l11 => k_is); (case c11 => k_is); (case k11 => k_is); (case a12 => k_is); (case l12 => k_is); (case c12 => k_is); (case k12 => k_is); (case a13 => k_is); (case l13 => k_is); (case c13 => k_is); (case k13 => k_is); (case a14 => k_is); (case l14 => k_is); (case c14 => k_is); (case k14 => k_is); (case a15 => k_is); (case l15 => k_is); (case c15 => k_is); (case k15 => k_is); (case a16 => k_is); (case l16 => k_is); (case c16 => k_is); (case k16 => k_is); (case a17 => k_is); (case l17 => k_is); (case c17 => k_is); (case k17 => k_is); (case a18 => k_is); (case l18 => k_is); (case c18 => k_is); (case k18 => k_is); (case a19 => k_is); (case l19 => k_is); (case c19 => k_is); (case k19 => k_is); (case z0 => k_is); (case z1 => k_is); (case z2 => k_is); (case z3 => k_is); (case z4 => k_is); (case z5 => k_is); (case z6 => k_is); (case z7 => k_is); (case z8 => k_is); (case z9 => k_is); (case z10 => k_is); (case z11 => k_is); (case z12 => k_is); (case z13 => k_is)
