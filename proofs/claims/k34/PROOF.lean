import PyProof.Rows.All
import Wide.All
import OpenK.AllK
import Wide.FinOn
import HandS.ForMost
import HandS.ForExc
import HandS.Wide
import HandS.ExcInit
import HandS.ExcField
import HandS.TryMany
import HandS.TupAny
import HandS.IsInst
import HandS.Gcd
import HandS.WordsDict
import HandS.Style
import HandS.RaiseMore
import HandS.Defaults
import HandS.Small
import HandS.EndBits
import HandS.Zip
import HandS.Conv
import KE.KStar
import KE.GoesMore
import HandS.Star
import HandS.NoneIn
import HandS.TupMul
import PySem.Challenge.RW_markovbench_k34_distances_of_distributio
import OpenK.XHead
import HandS.ExcIs
set_option Elab.async false
set_option linter.all false
set_option maxRecDepth 100000
set_option autoImplicit false
/-! A layer over HandS: values without addresses for what never changes, a small store for what is being changed. -/
namespace Ab
open PySem PySem.Spec PyProof.Rows L2

/-! ### values and the store -/
inductive D where
  | non | bl (b : Bool) | int (i : Int) | str (x : Str)
  | tup (xs : List D)
  /-- a list that never changes any more -/
  | lst (xs : List D)
  /-- a dict that never changes any more -/
  | dk (kvs : List (Key × D))
  /-- the script: a list of ints that is read alone -/
  | scr (ns : List Int)
  /-- an object of the store -/
  | ref (n : Nat)
  /-- an instance that never changes any more -/
  | ins (C : Addr) (fs : List (Str × D))
  /-- a thing of the text (a def, a class) -/
  | adr (a : Addr)
  | ty (n : String)
  /-- an exception held by an except suite: where it is, its class, its own dict -/
  | exc (a : Addr) (cls : Value) (dd : Option Addr) (fs : List (Str × D))

inductive SO where
  | lst (xs : List D)
  | dk (kvs : List (Key × D))
  | ins (C : Addr) (fs : List (Str × D))
  | gone
abbrev Store := List SO

/-- where the store's objects are; lists that are being made by a comprehension around (read by nobody) -/
structure Al where
  l : List Addr
  h : List Addr
/-- a live address -/
def Lv (αs : Al) (st : Store) (a : Addr) : Prop := (∃ (n : Nat) (o : SO), αs.l[n]? = some a ∧ st[n]? = some o ∧ o ≠ SO.gone) ∨ a ∈ αs.h

def KLst (K : PySem.W.Frag) (a : Addr) (xs : List V) : Prop :=
  ∃ (o : Obj) (its : Array Value) (n : Nat), K.lookup a = some o ∧ o.cls = .type "list" ∧ o.dict = none ∧ o.data = .seq its n ∧ its.size ≤ sizeLine ∧ Vals xs its.toList
mutual
inductive Rp (K : PySem.W.Frag) (αs : Al) (L : Addr → Prop) (H : Hp) : V → D → Prop
  | non : Rp K αs L H .non .non
  | bl (b : Bool) : Rp K αs L H (.bl b) (.bl b)
  | int (i : Int) : Rp K αs L H (.int i) (.int i)
  | str (x : Str) : Rp K αs L H (.str x) (.str x)
  | tup {a : Addr} {vs : List V} {ds : List D} : SqT K H a vs → RpAll K αs L H vs ds → Rp K αs L H (.ref a) (.tup ds)
  | lst {a : Addr} {vs : List V} {ds : List D} : H a = some (.lst vs) → ¬ L a → RpAll K αs L H vs ds → Rp K αs L H (.ref a) (.lst ds)
  | scr {a : Addr} {ns : List Int} : ((Rd H a (.lst (ns.map V.int)) ∧ ¬ L a) ∨ KLst K a (ns.map V.int)) → Rp K αs L H (.ref a) (.scr ns)
  | dk {a : Addr} {vs : List (Key × V)} {ds : List (Key × D)} : H a = some (.dK vs) → ¬ L a → RpKs K αs L H vs ds → Rp K αs L H (.ref a) (.dk ds)
  | ref {a : Addr} {n : Nat} : αs.l[n]? = some a → Rp K αs L H (.ref a) (.ref n)
  | ins {a C dx : Addr} {fs : List (Str × V)} {gs : List (Str × D)} : H a = some (.ins C dx fs) → ¬ L a → RpFs K αs L H fs gs → Rp K αs L H (.ref a) (.ins C gs)
  | adr (a : Addr) : Rp K αs L H (.ref a) (.adr a)
  | ty (n : String) : Rp K αs L H (.ty n) (.ty n)
  | exc {a d : Addr} {cls : Value} {fs : List (Str × V)} {gs : List (Str × D)} : H d = some (.xd fs) → RpFs K αs L H fs gs → Rp K αs L H (.ref a) (.exc a cls (some d) gs)
  | exc0 {a : Addr} {cls : Value} : Rp K αs L H (.ref a) (.exc a cls none [])
inductive RpAll (K : PySem.W.Frag) (αs : Al) (L : Addr → Prop) (H : Hp) : List V → List D → Prop
  | nil : RpAll K αs L H [] []
  | cons {v : V} {vs : List V} {d : D} {ds : List D} : Rp K αs L H v d → RpAll K αs L H vs ds → RpAll K αs L H (v :: vs) (d :: ds)
inductive RpKs (K : PySem.W.Frag) (αs : Al) (L : Addr → Prop) (H : Hp) : List (Key × V) → List (Key × D) → Prop
  | nil : RpKs K αs L H [] []
  | cons {f : Key} {v : V} {vs : List (Key × V)} {d : D} {ds : List (Key × D)} : Rp K αs L H v d → RpKs K αs L H vs ds → RpKs K αs L H ((f, v) :: vs) ((f, d) :: ds)
inductive RpFs (K : PySem.W.Frag) (αs : Al) (L : Addr → Prop) (H : Hp) : List (Str × V) → List (Str × D) → Prop
  | nil : RpFs K αs L H [] []
  | cons {f : Str} {v : V} {vs : List (Str × V)} {d : D} {ds : List (Str × D)} : Rp K αs L H v d → RpFs K αs L H vs ds → RpFs K αs L H ((f, v) :: vs) ((f, d) :: ds)
end

section
variable {K : PySem.W.Frag} {αs : Al} {L : Addr → Prop} {H : Hp}
theorem RpAll.length : ∀ {vs : List V} {ds : List D}, RpAll K αs L H vs ds → vs.length = ds.length
  | _, _, .nil => rfl
  | _, _, .cons _ t => by rw [List.length_cons, List.length_cons, RpAll.length t]
theorem RpAll.get : ∀ {vs : List V} {ds : List D} {i : Nat} {d : D}, RpAll K αs L H vs ds → ds[i]? = some d → ∃ v, vs[i]? = some v ∧ Rp K αs L H v d
  | _, _, _, _, .nil, e => by simp at e
  | _, _, 0, _, .cons r _, e => by simp at e; subst e; exact ⟨_, rfl, r⟩
  | _, _, i + 1, d, .cons _ t, e => by
    obtain ⟨v, h1, h2⟩ := RpAll.get (i := i) (d := d) t (by simpa using e)
    exact ⟨v, by simpa using h1, h2⟩
theorem RpAll.getV : ∀ {vs : List V} {ds : List D} {i : Nat} {v : V}, RpAll K αs L H vs ds → vs[i]? = some v → ∃ d, ds[i]? = some d ∧ Rp K αs L H v d
  | _, _, _, _, .nil, e => by simp at e
  | _, _, 0, _, .cons r _, e => by simp at e; subst e; exact ⟨_, rfl, r⟩
  | _, _, i + 1, v, .cons _ t, e => by
    obtain ⟨d, h1, h2⟩ := RpAll.getV (i := i) (v := v) t (by simpa using e)
    exact ⟨d, by simpa using h1, h2⟩
theorem RpAll.append : ∀ {vs ws : List V} {ds es : List D}, RpAll K αs L H vs ds → RpAll K αs L H ws es → RpAll K αs L H (vs ++ ws) (ds ++ es)
  | _, _, _, _, .nil, s => s
  | _, _, _, _, .cons r t, s => .cons r (RpAll.append t s)
theorem RpAll.take : ∀ {vs : List V} {ds : List D} (n : Nat), RpAll K αs L H vs ds → RpAll K αs L H (vs.take n) (ds.take n)
  | _, _, 0, _ => .nil
  | _, _, _ + 1, .nil => .nil
  | _, _, n + 1, .cons r t => .cons r (RpAll.take n t)
theorem RpAll.drop : ∀ {vs : List V} {ds : List D} (n : Nat), RpAll K αs L H vs ds → RpAll K αs L H (vs.drop n) (ds.drop n)
  | _, _, 0, r => r
  | _, _, _ + 1, .nil => .nil
  | _, _, n + 1, .cons _ t => RpAll.drop n t
theorem RpAll.set : ∀ {vs : List V} {ds : List D} {v : V} {d : D} (i : Nat), Rp K αs L H v d → RpAll K αs L H vs ds → RpAll K αs L H (vs.set i v) (ds.set i d)
  | _, _, _, _, _, _, .nil => .nil
  | _, _, _, _, 0, q, .cons _ t => .cons q t
  | _, _, _, _, i + 1, q, .cons r t => .cons r (RpAll.set i q t)
theorem RpAll.eraseIdx : ∀ {vs : List V} {ds : List D} (i : Nat), RpAll K αs L H vs ds → RpAll K αs L H (vs.eraseIdx i) (ds.eraseIdx i)
  | _, _, _, .nil => .nil
  | _, _, 0, .cons _ t => t
  | _, _, i + 1, .cons r t => .cons r (RpAll.eraseIdx i t)
theorem RpAll.reverse {vs : List V} {ds : List D} (h : RpAll K αs L H vs ds) : RpAll K αs L H vs.reverse ds.reverse := by
  induction vs generalizing ds with
  | nil => cases h; exact .nil
  | cons v vs ih =>
    cases h with
    | cons r t =>
      rw [List.reverse_cons, List.reverse_cons]
      exact (ih t).append (.cons r .nil)
theorem RpAll.dropLast {vs : List V} {ds : List D} (h : RpAll K αs L H vs ds) : RpAll K αs L H vs.dropLast ds.dropLast := by
  rw [List.dropLast_eq_take, List.dropLast_eq_take, h.length]
  exact h.take _
theorem RpAll.rep {vs : List V} {ds : List D} (h : RpAll K αs L H vs ds) : ∀ k : Nat, RpAll K αs L H (List.replicate k vs).flatten (List.replicate k ds).flatten
  | 0 => .nil
  | k + 1 => by
    rw [List.replicate_succ, List.replicate_succ, List.flatten_cons, List.flatten_cons]
    exact h.append (RpAll.rep h k)
theorem RpFs.lookup : ∀ {fs : List (Str × V)} {gs : List (Str × D)} {f : Str} {d : D}, RpFs K αs L H fs gs → gs.lookup f = some d → ∃ v, fs.lookup f = some v ∧ Rp K αs L H v d
  | _, _, _, _, .nil, e => by simp at e
  | _, _, f, d, .cons (f := g) r t, e => by
    rw [List.lookup_cons] at e ⊢
    cases hb : f == g with
    | true => rw [hb] at e; simp at e; subst e; exact ⟨_, rfl, r⟩
    | false => rw [hb] at e; simp at e; exact RpFs.lookup t e
theorem RpFs.lookup_none : ∀ {fs : List (Str × V)} {gs : List (Str × D)} {f : Str}, RpFs K αs L H fs gs → gs.lookup f = none → fs.lookup f = none
  | _, _, _, .nil, e => rfl
  | _, _, f, .cons (f := g) r t, e => by
    rw [List.lookup_cons] at e ⊢
    cases hb : f == g with
    | true => rw [hb] at e; cases e
    | false => rw [hb] at e; exact RpFs.lookup_none t e
theorem RpFs.length : ∀ {fs : List (Str × V)} {gs : List (Str × D)}, RpFs K αs L H fs gs → fs.length = gs.length
  | _, _, .nil => rfl
  | _, _, .cons _ t => by rw [List.length_cons, List.length_cons, RpFs.length t]
/-- putF on the other side -/
def putG (f : Str) (d : D) : List (Str × D) → List (Str × D)
  | [] => [(f, d)]
  | (g, x) :: r => if g = f then (g, d) :: r else (g, x) :: putG f d r
theorem RpFs.put {f : Str} {v : V} {d : D} (q : Rp K αs L H v d) : ∀ {fs : List (Str × V)} {gs : List (Str × D)}, RpFs K αs L H fs gs → RpFs K αs L H (putF f v fs) (putG f d gs)
  | _, _, .nil => .cons q .nil
  | _, _, .cons (f := g) r t => by
    unfold putF putG
    by_cases h : g = f
    · rw [if_pos h, if_pos h]; exact .cons q t
    · rw [if_neg h, if_neg h]; exact .cons r (RpFs.put q t)

/-- what may be live -/
def Mt : HO → Prop
  | .lst _ => True
  | .ins _ _ _ => True
  | .dK _ => True
  | _ => False

variable {αs' : Al} {L' : Addr → Prop} {H' : Hp}
/-- what carries values over -/
structure Carry (αs : Al) (L : Addr → Prop) (H : Hp) (αs' : Al) (L' : Addr → Prop) (H' : Hp) : Prop where
  pre : ∀ (n : Nat) (a : Addr), αs.l[n]? = some a → αs'.l[n]? = some a
  keep : ∀ a o, H a = some o → ¬ L a → H' a = some o
  live : ∀ a, L' a → L a ∨ H a = none
  mt : ∀ a, L a → ∃ o, H a = some o ∧ Mt o
theorem Carry.rd {a : Addr} {u : HO} (c : Carry αs L H αs' L' H') (h : Rd H a u) (n : ¬ L a) : Rd H' a u := by
  rcases h with h | ⟨o, h⟩
  · exact .inl (c.keep _ _ h n)
  · exact .inr ⟨o, c.keep _ _ h n⟩
theorem Carry.tupN {a : Addr} {vs : List V} (c : Carry αs L H αs' L' H') (h : Rd H a (.tup vs)) : ¬ L a := fun l => by
  obtain ⟨o, e, m⟩ := c.mt a l
  rcases h with h | ⟨u, h⟩
  · rw [h] at e; cases e; exact m
  · rw [h] at e; cases e; exact m
theorem Carry.sqT {a : Addr} {vs : List V} (c : Carry αs L H αs' L' H') (h : SqT K H a vs) : SqT K H' a vs := by
  rcases h with h | h
  · exact .inl (c.rd h (c.tupN h))
  · exact .inr h
theorem Carry.nl {a : Addr} {u : HO} (c : Carry αs L H αs' L' H') (h : Rd H a u) (n : ¬ L a) : ¬ L' a := fun l => by
  rcases c.live a l with z | z
  · exact n z
  · rcases h with h | ⟨o, h⟩
    · rw [h] at z; cases z
    · rw [h] at z; cases z
mutual
theorem Rp.mono (c : Carry αs L H αs' L' H') : ∀ {v : V} {d : D}, Rp K αs L H v d → Rp K αs' L' H' v d
  | _, _, .non => .non
  | _, _, .bl b => .bl b
  | _, _, .int i => .int i
  | _, _, .str x => .str x
  | _, _, .tup h t => .tup (c.sqT h) (RpAll.mono c t)
  | _, _, .lst h n t => .lst (c.keep _ _ h n) (c.nl (.inl h) n) (RpAll.mono c t)
  | _, _, .scr h => .scr (h.imp (fun z => ⟨c.rd z.1 z.2, c.nl z.1 z.2⟩) fun z => z)
  | _, _, .dk h n t => .dk (c.keep _ _ h n) (c.nl (.inl h) n) (RpKs.mono c t)
  | _, _, .ref h => .ref (c.pre _ _ h)
  | _, _, .ins h n t => .ins (c.keep _ _ h n) (c.nl (.inl h) n) (RpFs.mono c t)
  | _, _, .adr a => .adr a
  | _, _, .ty n => .ty n
  | _, _, .exc h t => .exc (c.keep _ _ h fun l => by
      obtain ⟨o, e, m⟩ := c.mt _ l
      rw [h] at e; cases e; exact m) (RpFs.mono c t)
  | _, _, .exc0 => .exc0
theorem RpAll.mono (c : Carry αs L H αs' L' H') : ∀ {vs : List V} {ds : List D}, RpAll K αs L H vs ds → RpAll K αs' L' H' vs ds
  | _, _, .nil => .nil
  | _, _, .cons r t => .cons (Rp.mono c r) (RpAll.mono c t)
theorem RpKs.mono (c : Carry αs L H αs' L' H') : ∀ {vs : List (Key × V)} {ds : List (Key × D)}, RpKs K αs L H vs ds → RpKs K αs' L' H' vs ds
  | _, _, .nil => .nil
  | _, _, .cons r t => .cons (Rp.mono c r) (RpKs.mono c t)
theorem RpFs.mono (c : Carry αs L H αs' L' H') : ∀ {vs : List (Str × V)} {ds : List (Str × D)}, RpFs K αs L H vs ds → RpFs K αs' L' H' vs ds
  | _, _, .nil => .nil
  | _, _, .cons r t => .cons (Rp.mono c r) (RpFs.mono c t)
end
end

/-! ### the store and the heap -/
def OR (K : PySem.W.Frag) (αs : Al) (L : Addr → Prop) (H : Hp) (a : Addr) : SO → Prop
  | .lst ds => ∃ vs, H a = some (.lst vs) ∧ RpAll K αs L H vs ds
  | .dk ds => ∃ vs, H a = some (.dK vs) ∧ RpKs K αs L H vs ds
  | .ins C gs => ∃ dx fs, H a = some (.ins C dx fs) ∧ RpFs K αs L H fs gs
  | .gone => True

structure SRel (K : PySem.W.Frag) (αs : Al) (st : Store) (H : Hp) : Prop where
  len : αs.l.length = st.length
  nd : αs.l.Nodup
  obj : ∀ (n : Nat) (o : SO) (a : Addr), st[n]? = some o → αs.l[n]? = some a → OR K αs (Lv αs st) H a o
  trk : ∀ a ∈ αs.l, H a ≠ none
  hid : ∀ a ∈ αs.h, a ∉ αs.l ∧ ∃ xs, H a = some (.lst xs)

structure Ext (αs : Al) (st : Store) (H : Hp) (αs' : Al) (st' : Store) (H' : Hp) : Prop where
  pre : ∀ (n : Nat) (a : Addr), αs.l[n]? = some a → αs'.l[n]? = some a
  hid : αs'.h = αs.h
  hkeep : ∀ a ∈ αs.h, H' a = H a
  len : st.length ≤ st'.length
  dead : ∀ n : Nat, st[n]? = some SO.gone → st'[n]? = some SO.gone
  fresh : ∀ (n : Nat) (a : Addr), st.length ≤ n → αs'.l[n]? = some a → H a = none
  keep : ∀ a o, H a = some o → ¬ Lv αs st a → H' a = some o
  trk : ∀ a, H a ≠ none → H' a ≠ none

theorem SRel.mt {K : PySem.W.Frag} {αs : Al} {st : Store} {H : Hp} (r : SRel K αs st H) : ∀ a, Lv αs st a → ∃ o, H a = some o ∧ Mt o := fun a z => by
  rcases z with ⟨n, o, ha, ho, hg⟩ | z
  case inr => obtain ⟨_, xs, e⟩ := r.hid a z; exact ⟨_, e, True.intro⟩
  have h := r.obj n o a ho ha
  cases o with
  | lst ds => obtain ⟨vs, e, _⟩ := h; exact ⟨_, e, True.intro⟩
  | dk ds => obtain ⟨vs, e, _⟩ := h; exact ⟨_, e, True.intro⟩
  | ins C gs => obtain ⟨dx, fs, e, _⟩ := h; exact ⟨_, e, True.intro⟩
  | gone => exact absurd rfl hg
theorem Ext.live {αs αs' : Al} {st st' : Store} {H H' : Hp} {K : PySem.W.Frag} (r : SRel K αs st H) (x : Ext αs st H αs' st' H') : ∀ a, Lv αs' st' a → Lv αs st a ∨ H a = none := fun a z => by
  rcases z with ⟨n, o, ha, ho, hg⟩ | z
  case inr => exact .inl (.inr (by rw [← x.hid]; exact z))
  by_cases hn : n < st.length
  · have h1 : n < αs.l.length := by rw [r.len]; exact hn
    have e1 : αs.l[n]? = some αs.l[n] := List.getElem?_eq_getElem h1
    have e2 := x.pre n _ e1
    rw [ha] at e2
    cases e2
    cases e : st[n]? with
    | none => rw [List.getElem?_eq_none_iff] at e; omega
    | some o' =>
      refine .inl (.inl ⟨n, o', e1, e, fun z => ?_⟩)
      subst z
      have := x.dead n e
      rw [ho] at this
      cases this
      exact hg rfl
  · exact .inr (x.fresh n a (by omega) ha)
theorem Ext.carry {αs αs' : Al} {st st' : Store} {H H' : Hp} {K : PySem.W.Frag} (r : SRel K αs st H) (x : Ext αs st H αs' st' H') : Carry αs (Lv αs st) H αs' (Lv αs' st') H' :=
  ⟨x.pre, x.keep, x.live r, r.mt⟩
theorem Ext.refl (αs : Al) (st : Store) (H : Hp) (h : αs.l.length = st.length) : Ext αs st H αs st H :=
  ⟨fun _ _ e => e, rfl, fun _ _ => rfl, Nat.le_refl _, fun _ e => e, fun n a hn e => absurd e (by rw [List.getElem?_eq_none (by omega)]; exact fun h => nomatch h), fun _ _ e _ => e, fun _ h => h⟩
theorem Ext.trans {αs αs1 αs2 : Al} {st st1 st2 : Store} {H H1 H2 : Hp} {K : PySem.W.Frag} (r : SRel K αs st H) (x : Ext αs st H αs1 st1 H1) (y : Ext αs1 st1 H1 αs2 st2 H2) (r1 : SRel K αs1 st1 H1) : Ext αs st H αs2 st2 H2 where
  pre := fun n a e => y.pre n a (x.pre n a e)
  hid := y.hid.trans x.hid
  hkeep := fun a h => (y.hkeep a (by rw [x.hid]; exact h)).trans (x.hkeep a h)
  len := Nat.le_trans x.len y.len
  dead := fun n e => y.dead n (x.dead n e)
  fresh := fun n a hn e => by
    by_cases h1 : n < st1.length
    · have h2 : n < αs1.l.length := by rw [r1.len]; exact h1
      have e1 : αs1.l[n]? = some αs1.l[n] := List.getElem?_eq_getElem h2
      have e2 := y.pre n _ e1
      rw [e] at e2
      cases e2
      exact x.fresh n _ hn e1
    · have z := y.fresh n a (by omega) e
      cases q : H a with
      | none => rfl
      | some o => exact absurd z (x.trk a (by rw [q]; exact fun h => nomatch h))
  keep := fun a o e n => y.keep a o (x.keep a o e n) fun l => by
    rcases x.live r a l with z | z
    · exact n z
    · rw [e] at z; cases z
  trk := fun a h => y.trk a (x.trk a h)

/-! ### states -/
structure AS where
  σ : List (Option D)
  st : Store
structure Rel (K : PySem.W.Frag) (αs : Al) (σ : L2.St) (H : Hp) (S : AS) : Prop where
  s : SRel K αs S.st H
  len : σ.length = S.σ.length
  val : ∀ (i : Nat) (d : D), S.σ[i]? = some (some d) → ∃ v, σ[i]? = some (some v) ∧ Rp K αs (Lv αs S.st) H v d
section
variable {K : PySem.W.Frag} {αs αs' : Al} {σ : L2.St} {H H' : Hp} {S : AS} {st' : Store}
theorem Rel.mono (r : Rel K αs σ H S) (x : Ext αs S.st H αs' st' H') (r' : SRel K αs' st' H') : Rel K αs' σ H' ⟨S.σ, st'⟩ :=
  ⟨r', r.len, fun i d e => by
    obtain ⟨v, e1, e2⟩ := r.val i d e
    exact ⟨v, e1, e2.mono (x.carry r.s)⟩⟩
theorem Rel.set {i : Nat} {v : V} {d : D} (r : Rel K αs σ H S) (q : Rp K αs (Lv αs S.st) H v d) : Rel K αs (σ.set i (some v)) H ⟨S.σ.set i (some d), S.st⟩ :=
  ⟨r.s, by rw [List.length_set, List.length_set, r.len], fun j e h => by
    by_cases hj : i = j
    · subst hj
      by_cases hl : i < S.σ.length
      · have h1 : (S.σ.set i (some d))[i]? = some (some d) := List.getElem?_set_self hl
        have h2 : (S.σ.set i (some d))[i]? = some (some e) := h
        rw [h1] at h2
        cases h2
        exact ⟨v, List.getElem?_set_self (by rw [r.len]; exact hl), q⟩
      · have h1 : (S.σ.set i (some d))[i]? = none := List.getElem?_eq_none (by rw [List.length_set]; omega)
        have h2 : (S.σ.set i (some d))[i]? = some (some e) := h
        rw [h1] at h2
        cases h2
    · have h1 : (S.σ.set i (some d))[j]? = S.σ[j]? := List.getElem?_set_ne hj
      have h2 : (S.σ.set i (some d))[j]? = some (some e) := h
      rw [h1] at h2
      obtain ⟨w, e1, e2⟩ := r.val j e h2
      exact ⟨w, by rw [List.getElem?_set_ne hj]; exact e1, e2⟩⟩
end

/-! ### abstract readings and what they stand for -/
/-- an exception: its class, its fields -/
structure XD where
  cls : Value
  fs : List (Str × D)
abbrev AX := XD → AS → Prop
abbrev AQ := D → AS → Prop
abbrev AE := AS → AQ → AX → Prop
abbrev AB := AS → (Bool → AS → Prop) → AX → Prop
abbrev AA := AS → (List D → AS → Prop) → AX → Prop
structure AK where
  nx : AS → Prop
  rt : AQ
  bk : AS → Prop
  ct : AS → Prop
  xe : AX
abbrev AT := AK → AS → Prop

/-- an exception's own dict -/
def XRel (K : PySem.W.Frag) (αs : Al) (L : Addr → Prop) (H : Hp) (dd : Option Addr) (gs : List (Str × D)) : Prop :=
  match dd with
  | none => gs = []
  | some d => ∃ fs, H d = some (.xd fs) ∧ RpFs K αs L H fs gs
theorem XRel.mono {K : PySem.W.Frag} {αs αs' : Al} {L L' : Addr → Prop} {H H' : Hp} {dd : Option Addr} {gs : List (Str × D)} (c : Carry αs L H αs' L' H') (x : XRel K αs L H dd gs) : XRel K αs' L' H' dd gs := by
  cases dd with
  | none => exact x
  | some d =>
    obtain ⟨fs, e, q⟩ := x
    exact ⟨fs, c.keep _ _ e fun l => by
      obtain ⟨o, e', m⟩ := c.mt _ l
      rw [e] at e'; cases e'; exact m, q.mono c⟩

section
variable (K : PySem.W.Frag) (W : WX) (αs : Al) (st : Store) (H : Hp) (σ : L2.St)
def XOk (X : AX) : Prop := ∀ αs' H' S' cls dd gs, Rel K αs' σ H' S' → Ext αs st H αs' S'.st H' → XRel K αs' (Lv αs' S'.st) H' dd gs → X ⟨cls, gs⟩ S' → W cls dd σ H'
def QOk (QA : AQ) (Q : VK) : Prop := ∀ αs' v H' d S', Rel K αs' σ H' S' → Ext αs st H αs' S'.st H' → Rp K αs' (Lv αs' S'.st) H' v d → QA d S' → Q v H'
def BOk (QA : Bool → AS → Prop) (Q : Bool → Hp → Prop) : Prop := ∀ αs' b H' S', Rel K αs' σ H' S' → Ext αs st H αs' S'.st H' → QA b S' → Q b H'
def AOk (QA : List D → AS → Prop) (Q : List V → Hp → Prop) : Prop := ∀ αs' vs H' ds S', Rel K αs' σ H' S' → Ext αs st H αs' S'.st H' → RpAll K αs' (Lv αs' S'.st) H' vs ds → QA ds S' → Q vs H'
/-- the end of a statement: the slots may have changed -/
def NOk (QA : AS → Prop) (Q : L2.St → Hp → Prop) : Prop := ∀ αs' σ' H' S', Rel K αs' σ' H' S' → Ext αs st H αs' S'.st H' → QA S' → Q σ' H'
def ROk (QA : AQ) (Q : VK) : Prop := ∀ αs' σ' v H' d S', Rel K αs' σ' H' S' → Ext αs st H αs' S'.st H' → Rp K αs' (Lv αs' S'.st) H' v d → QA d S' → Q v H'
def XOkS (X : AX) : Prop := ∀ αs' σ' H' S' cls dd gs, Rel K αs' σ' H' S' → Ext αs st H αs' S'.st H' → XRel K αs' (Lv αs' S'.st) H' dd gs → X ⟨cls, gs⟩ S' → W cls dd σ' H'
structure EOk (DA : AK) (D : Ends) : Prop where
  nx : NOk K αs st H DA.nx D.nx
  rt : ROk K αs st H DA.rt D.rt
  bk : NOk K αs st H DA.bk D.bk
  ct : NOk K αs st H DA.ct D.ct
  xe : XOkS K W αs st H DA.xe
end
def conc (K : PySem.W.Frag) (W : WX) (t : AE) : TE := fun σ H Q => ∃ αs S QA XA, Rel K αs σ H S ∧ t S QA XA ∧ QOk K αs S.st H σ QA Q ∧ XOk K W αs S.st H σ XA
def concB (K : PySem.W.Frag) (W : WX) (t : AB) : TT := fun σ H Q => ∃ αs S QA XA, Rel K αs σ H S ∧ t S QA XA ∧ BOk K αs S.st H σ QA Q ∧ XOk K W αs S.st H σ XA
def concA (K : PySem.W.Frag) (W : WX) (t : AA) : TA := fun σ H Q => ∃ αs S QA XA, Rel K αs σ H S ∧ t S QA XA ∧ AOk K αs S.st H σ QA Q ∧ XOk K W αs S.st H σ XA
def concS (K : PySem.W.Frag) (W : WX) (t : AT) : TS := fun D σ H => ∃ αs S DA, Rel K αs σ H S ∧ t DA S ∧ EOk K W αs S.st H DA D

/-- judgements -/
abbrev JE (X : Cx) (W : WX) (e : Expr) (t : AE) : Prop := PE X e (conc X.K W t)
abbrev JB (X : Cx) (W : WX) (e : Expr) (t : AB) : Prop := PT X e (concB X.K W t)
abbrev JA (X : Cx) (W : WX) (es : List Expr) (t : AA) : Prop := PA X es (concA X.K W t)
abbrev JS (X : Cx) (W : WX) (s : Stmt) (t : AT) : Prop := PS X s (concS X.K W t)
abbrev JSs (X : Cx) (W : WX) (s : List Stmt) (t : AT) : Prop := PSs X s (concS X.K W t)

theorem PE.imp {X : Cx} {e : Expr} {t t' : TE} (h : PE X e t) (i : ∀ σ H Q, t' σ H Q → t σ H Q) : PE X e t' := ⟨fun pins s σ H Q I q => h.run pins s σ H Q I (i σ H Q q)⟩
theorem PT.imp {X : Cx} {e : Expr} {t t' : TT} (h : PT X e t) (i : ∀ σ H Q, t' σ H Q → t σ H Q) : PT X e t' := ⟨fun pins s σ H Q I q => h.run pins s σ H Q I (i σ H Q q)⟩
theorem PA.imp {X : Cx} {e : List Expr} {t t' : TA} (h : PA X e t) (i : ∀ σ H Q, t' σ H Q → t σ H Q) : PA X e t' := ⟨fun pos pins s σ H Q I q => h.run pos pins s σ H Q I (i σ H Q q)⟩
theorem PS.imp {X : Cx} {e : Stmt} {t t' : TS} (h : PS X e t) (i : ∀ D σ H, t' D σ H → t D σ H) : PS X e t' := ⟨fun pins s σ H D I q => h.run pins s σ H D I (i D σ H q)⟩
theorem PSs.imp {X : Cx} {e : List Stmt} {t t' : TS} (h : PSs X e t) (i : ∀ D σ H, t' D σ H → t D σ H) : PSs X e t' := ⟨fun pins s σ H D I q => h.run pins s σ H D I (i D σ H q)⟩

/-! ### going on from a later state -/
section
variable {K : PySem.W.Frag} {W : WX} {αs αs1 : Al} {σ : L2.St} {H H1 : Hp} {S S1 : AS} {st : Store}
theorem Rel.ext0 (r : Rel K αs σ H S) : Ext αs S.st H αs S.st H := Ext.refl _ _ _ r.s.len
theorem XOk.on {X : AX} (x : XOk K W αs S.st H σ X) (r : Rel K αs σ H S) (r1 : Rel K αs1 σ H1 S1) (e : Ext αs S.st H αs1 S1.st H1) : XOk K W αs1 S1.st H1 σ X :=
  fun αs' H' S' cls dd gs r' e' q h => x αs' H' S' cls dd gs r' (e.trans r.s e' r1.s) q h
theorem QOk.on {QA : AQ} {Q : VK} (x : QOk K αs S.st H σ QA Q) (r : Rel K αs σ H S) (r1 : Rel K αs1 σ H1 S1) (e : Ext αs S.st H αs1 S1.st H1) : QOk K αs1 S1.st H1 σ QA Q :=
  fun αs' v H' d S' r' e' q h => x αs' v H' d S' r' (e.trans r.s e' r1.s) q h
theorem BOk.on {QA : Bool → AS → Prop} {Q : Bool → Hp → Prop} (x : BOk K αs S.st H σ QA Q) (r : Rel K αs σ H S) (r1 : Rel K αs1 σ H1 S1) (e : Ext αs S.st H αs1 S1.st H1) : BOk K αs1 S1.st H1 σ QA Q :=
  fun αs' v H' S' r' e' h => x αs' v H' S' r' (e.trans r.s e' r1.s) h
theorem AOk.on {QA : List D → AS → Prop} {Q : List V → Hp → Prop} (x : AOk K αs S.st H σ QA Q) (r : Rel K αs σ H S) (r1 : Rel K αs1 σ H1 S1) (e : Ext αs S.st H αs1 S1.st H1) : AOk K αs1 S1.st H1 σ QA Q :=
  fun αs' v H' d S' r' e' q h => x αs' v H' d S' r' (e.trans r.s e' r1.s) q h
variable {σ1 : L2.St}
theorem EOk.on {DA : AK} {D : Ends} (x : EOk K W αs S.st H DA D) (r : Rel K αs σ H S) (r1 : Rel K αs1 σ1 H1 S1) (e : Ext αs S.st H αs1 S1.st H1) : EOk K W αs1 S1.st H1 DA D where
  nx := fun αs' σ' H' S' r' e' h => x.nx αs' σ' H' S' r' (e.trans r.s e' r1.s) h
  rt := fun αs' σ' v H' d S' r' e' q h => x.rt αs' σ' v H' d S' r' (e.trans r.s e' r1.s) q h
  bk := fun αs' σ' H' S' r' e' h => x.bk αs' σ' H' S' r' (e.trans r.s e' r1.s) h
  ct := fun αs' σ' H' S' r' e' h => x.ct αs' σ' H' S' r' (e.trans r.s e' r1.s) h
  xe := fun αs' σ' H' S' cls dd gs r' e' q h => x.xe αs' σ' H' S' cls dd gs r' (e.trans r.s e' r1.s) q h
theorem EOk.x {DA : AK} {D : Ends} (x : EOk K W αs st H DA D) (σ : L2.St) : XOk K W αs st H σ DA.xe := fun αs' H' S' cls dd gs r' e' q h => x.xe αs' σ H' S' cls dd gs r' e' q h
end
end Ab
set_option Elab.async false
set_option linter.all false
set_option maxRecDepth 100000
set_option autoImplicit false
/-! Making, writing, freezing; expressions. -/
namespace Ab
open PySem PySem.Spec PyProof.Rows L2

section
variable {K : PySem.W.Frag} {αs αs' : Al} {L L' : Addr → Prop} {H H' : Hp} {st : Store} {p a : Addr} {o : HO} {vs : List V} {ds : List D}
theorem OR.same (c : Carry αs L H αs' L' H') (h : ∀ u, H a = some u → H' a = some u) : ∀ {o : SO}, OR K αs L H a o → OR K αs' L' H' a o
  | .lst ds, ⟨vs, e, r⟩ => ⟨vs, h _ e, r.mono c⟩
  | .dk ds, ⟨vs, e, r⟩ => ⟨vs, h _ e, r.mono c⟩
  | .ins C gs, ⟨dx, fs, e, r⟩ => ⟨dx, fs, h _ e, r.mono c⟩
  | .gone, _ => True.intro
/-- a new thing that is not live -/
theorem Ext.new (s : SRel K αs st H) (hp : H p = none) : Ext αs st H αs st (upd H p o) :=
  ⟨fun _ _ e => e, rfl, fun a h => by
    obtain ⟨_, xs, e⟩ := s.hid a h
    rw [upd_ne (ne_of_none e hp)], Nat.le_refl _, fun _ e => e, fun n a hn e => absurd e (by rw [List.getElem?_eq_none (by rw [s.len]; omega)]; exact fun h => nomatch h),
    fun a u e _ => by rw [upd_ne (ne_of_none e hp)]; exact e, fun a h => by
      by_cases q : a = p
      · rw [q, upd_same]; exact fun h => nomatch h
      · rw [upd_ne q]; exact h⟩
theorem SRel.new (s : SRel K αs st H) (hp : H p = none) : SRel K αs st (upd H p o) :=
  ⟨s.len, s.nd, fun n u a h1 h2 => (s.obj n u a h1 h2).same ((Ext.new (o := o) s hp).carry s) fun v e => by rw [upd_ne (ne_of_none e hp)]; exact e, fun a h => (Ext.new (o := o) s hp).trk a (s.trk a h),
    fun a h => by
      obtain ⟨h1, xs, e⟩ := s.hid a h
      exact ⟨h1, xs, by rw [upd_ne (ne_of_none e hp)]; exact e⟩⟩
theorem SRel.notlive (s : SRel K αs st H) (hp : H p = none) : ¬ Lv αs st p := fun l => by
  obtain ⟨o, e, _⟩ := s.mt p l
  rw [hp] at e; cases e
theorem Rp.newT (s : SRel K αs st H) (hp : H p = none) (r : RpAll K αs (Lv αs st) H vs ds) : Rp K αs (Lv αs st) (upd H p (.tup vs)) (.ref p) (.tup ds) :=
  .tup (.inl (.inl upd_same)) (r.mono ((Ext.new s hp).carry s))
theorem Rp.newF (s : SRel K αs st H) (hp : H p = none) (r : RpAll K αs (Lv αs st) H vs ds) : Rp K αs (Lv αs st) (upd H p (.lst vs)) (.ref p) (.lst ds) :=
  .lst upd_same (s.notlive hp) (r.mono ((Ext.new s hp).carry s))

/-- a new thing that is live -/
def Al.add (αs : Al) (p : Addr) : Al := ⟨αs.l ++ [p], αs.h⟩
theorem Ext.newL {u : SO} (s : SRel K αs st H) (hp : H p = none) : Ext αs st H (αs.add p) (st ++ [u]) (upd H p o) :=
  ⟨fun n a e => by show (αs.l ++ [p])[n]? = _; rw [List.getElem?_append_left (List.getElem?_eq_some_iff.mp e).1]; exact e, rfl, (Ext.new s hp).hkeep, by rw [List.length_append]; omega,
    fun n e => by rw [List.getElem?_append_left (List.getElem?_eq_some_iff.mp e).1]; exact e,
    fun n a hn e => by
      have e : (αs.l ++ [p])[n]? = some a := e
      rw [List.getElem?_append_right (by rw [s.len]; exact hn)] at e
      have : n - αs.l.length = 0 := by
        have z := (List.getElem?_eq_some_iff.mp e).1
        simp at z; omega
      rw [this] at e
      simp at e
      rw [← e]; exact hp,
    (Ext.new s hp).keep, (Ext.new s hp).trk⟩
theorem live_append {u : SO} (s : SRel K αs st H) (q : Lv (αs.add p) (st ++ [u]) a) : Lv αs st a ∨ a = p := by
  rcases q with ⟨n, o, h1, h2, h3⟩ | q
  case inr => exact .inl (.inr q)
  have h1 : (αs.l ++ [p])[n]? = some a := h1
  by_cases hn : n < st.length
  · rw [List.getElem?_append_left (by rw [s.len]; exact hn)] at h1
    rw [List.getElem?_append_left hn] at h2
    exact .inl (.inl ⟨n, o, h1, h2, h3⟩)
  · rw [List.getElem?_append_right (by rw [s.len]; omega)] at h1
    have z := (List.getElem?_eq_some_iff.mp h1).1
    have : n - αs.l.length = 0 := by simp at z; omega
    rw [this] at h1
    simp at h1
    exact .inr h1.symm
theorem SRel.newL {u : SO} (s : SRel K αs st H) (hp : H p = none) (q : OR K (αs.add p) (Lv (αs.add p) (st ++ [u])) (upd H p o) p u) : SRel K (αs.add p) (st ++ [u]) (upd H p o) where
  len := by show (αs.l ++ [p]).length = _; rw [List.length_append, List.length_append, s.len]; rfl
  nd := List.nodup_append.mpr ⟨s.nd, by simp, fun a ha b hb => by
    rw [List.mem_singleton.mp hb]
    exact fun e => s.trk a ha (by rw [e]; exact hp)⟩
  obj := fun n v a h1 h2 => by
    have h2 : (αs.l ++ [p])[n]? = some a := h2
    by_cases hn : n < st.length
    · rw [List.getElem?_append_left hn] at h1
      rw [List.getElem?_append_left (by rw [s.len]; exact hn)] at h2
      exact (s.obj n v a h1 h2).same ((Ext.newL (u := u) (o := o) s hp).carry s) fun w e => by rw [upd_ne (ne_of_none e hp)]; exact e
    · rw [List.getElem?_append_right (by omega)] at h1
      rw [List.getElem?_append_right (by rw [s.len]; omega)] at h2
      have z := (List.getElem?_eq_some_iff.mp h1).1
      have e0 : n - st.length = 0 := by simp at z; omega
      rw [e0] at h1
      rw [s.len, e0] at h2
      simp at h1 h2
      subst h1 h2
      exact q
  trk := fun a h => by
    rcases List.mem_append.mp h with h | h
    · exact (Ext.new (o := o) s hp).trk a (s.trk a h)
    · rw [List.mem_singleton.mp h, upd_same]; exact fun h => nomatch h
  hid := fun a h => by
    obtain ⟨h1, xs, e⟩ := s.hid a h
    have ne := ne_of_none e hp
    exact ⟨fun z => (List.mem_append.mp z).elim h1 fun z => ne (List.mem_singleton.mp z), xs, by rw [upd_ne ne]; exact e⟩

/-- making a list: frozen (false) or live (true) -/
def newL : Bool → List D → Store → (D → Store → Prop) → Prop
  | false, zs, st, Q => Q (.lst zs) st
  | true, zs, st, Q => Q (.ref st.length) (st ++ [.lst zs])
/-- what is wanted behind an operation -/
def ZOk (K : PySem.W.Frag) (αs : Al) (st : Store) (H : Hp) (QA : D → Store → Prop) (Q : VK) : Prop :=
  ∀ αs' v H' d st', SRel K αs' st' H' → Ext αs st H αs' st' H' → Rp K αs' (Lv αs' st') H' v d → QA d st' → Q v H'
theorem newL_ok {b : Bool} {QA : D → Store → Prop} {Q : VK} (s : SRel K αs st H) (hp : H p = none) (r : RpAll K αs (Lv αs st) H vs ds) (h : newL b ds st QA) (z : ZOk K αs st H QA Q) : Q (.ref p) (upd H p (.lst vs)) := by
  cases b with
  | false => exact z αs _ _ _ st (s.new hp) (Ext.new s hp) (Rp.newF s hp r) h
  | true =>
    have x : Ext αs st H (αs.add p) (st ++ [SO.lst ds]) (upd H p (.lst vs)) := Ext.newL s hp
    have q : SRel K (αs.add p) (st ++ [SO.lst ds]) (upd H p (.lst vs)) := s.newL hp ⟨vs, upd_same, r.mono (x.carry s)⟩
    refine z _ _ _ _ _ q x (.ref ?_) h
    show (αs.l ++ [p])[st.length]? = _
    rw [← s.len, List.getElem?_append_right (Nat.le_refl _)]
    simp

/-- a live thing is written -/
theorem Ext.write {n : Nat} {u : SO} (s : SRel K αs st H) (ha : αs.l[n]? = some a) (l : Lv αs st a) : Ext αs st H αs (st.set n u) (upd H a o) :=
  ⟨fun _ _ e => e, rfl, fun b h => by
    rw [upd_ne (fun z => (s.hid b h).1 (by rw [z]; exact List.mem_of_getElem? ha))], by rw [List.length_set]; exact Nat.le_refl _, fun m e => by
    by_cases hm : n = m
    · subst hm
      rcases l with ⟨k, w, h1, h2, h3⟩ | l
      case inr => exact absurd (List.mem_of_getElem? ha) (s.hid a l).1
      have : k = n := by
        have z1 := List.getElem?_eq_some_iff.mp h1
        have z2 := List.getElem?_eq_some_iff.mp ha
        exact (List.getElem_inj s.nd).mp (z1.2.trans z2.2.symm)
      subst this
      rw [h2] at e; cases e; exact absurd rfl h3
    · rw [List.getElem?_set_ne hm]; exact e,
    fun m b hn e => absurd e (by rw [List.getElem?_eq_none (by rw [s.len]; omega)]; exact fun h => nomatch h),
    fun b w e q => by rw [upd_ne (fun z => q (by rw [z]; exact l))]; exact e, fun b h => by
      by_cases q : b = a
      · rw [q, upd_same]; exact fun h => nomatch h
      · rw [upd_ne q]; exact h⟩
theorem SRel.write {n : Nat} {u : SO} (s : SRel K αs st H) (ha : αs.l[n]? = some a) (l : Lv αs st a) (q : OR K αs (Lv αs (st.set n u)) (upd H a o) a u) : SRel K αs (st.set n u) (upd H a o) where
  len := by rw [List.length_set]; exact s.len
  nd := s.nd
  obj := fun m v b h1 h2 => by
    by_cases hm : n = m
    · subst hm
      rw [ha] at h2
      cases h2
      have hl : n < st.length := by
        have := (List.getElem?_eq_some_iff.mp h1).1
        rw [List.length_set] at this; exact this
      rw [List.getElem?_set_self hl] at h1
      cases h1
      exact q
    · rw [List.getElem?_set_ne hm] at h1
      have hb : b ≠ a := fun e => by
        subst e
        have z1 := List.getElem?_eq_some_iff.mp ha
        have z2 := List.getElem?_eq_some_iff.mp h2
        exact hm ((List.getElem_inj s.nd).mp (z1.2.trans z2.2.symm))
      exact (s.obj m v b h1 h2).same ((Ext.write (u := u) (o := o) s ha l).carry s) fun w e => by rw [upd_ne hb]; exact e
  trk := fun b h => (Ext.write (u := u) (o := o) s ha l).trk b (s.trk b h)
  hid := fun b h => by
    obtain ⟨h1, xs, e⟩ := s.hid b h
    exact ⟨h1, xs, by rw [upd_ne (fun z => h1 (by rw [z]; exact List.mem_of_getElem? ha))]; exact e⟩

/-- the list that d is -/
def lstOf (st : Store) : D → Option (List D)
  | .lst xs => some xs
  | .ref n => match st[n]? with
    | some (.lst xs) => some xs
    | _ => none
  | _ => none
theorem lstOf_ok {v : V} {d : D} {xs : List D} (s : SRel K αs st H) (r : Rp K αs (Lv αs st) H v d) (h : lstOf st d = some xs) : ∃ a vs, v = .ref a ∧ H a = some (.lst vs) ∧ RpAll K αs (Lv αs st) H vs xs := by
  cases r with
  | lst e n t => simp only [lstOf, Option.some.injEq] at h; subst h; exact ⟨_, _, rfl, e, t⟩
  | @ref a n e =>
    simp only [lstOf] at h
    split at h
    · rename_i ys hy
      cases h
      obtain ⟨vs, e1, e2⟩ := s.obj n _ a hy e
      exact ⟨a, vs, rfl, e1, e2⟩
    · cases h
  | _ => cases h
/-- the live list n -/
theorem live_ok {n : Nat} {xs : List D} {v : V} (s : SRel K αs st H) (r : Rp K αs (Lv αs st) H v (.ref n)) (h : st[n]? = some (.lst xs)) : ∃ a vs, v = .ref a ∧ αs.l[n]? = some a ∧ Lv αs st a ∧ H a = some (.lst vs) ∧ RpAll K αs (Lv αs st) H vs xs := by
  cases r with
  | ref e =>
    obtain ⟨vs, e1, e2⟩ := s.obj n _ _ h e
    exact ⟨_, vs, rfl, e, .inl ⟨n, _, e, h, fun z => nomatch z⟩, e1, e2⟩
theorem live_set {n : Nat} {zs : List D} {ws : List V} {QA : D → Store → Prop} {Q : VK} {w : V} {d : D} (s : SRel K αs st H) (ha : αs.l[n]? = some a) (l : Lv αs st a) (r : RpAll K αs (Lv αs st) H ws zs)
    (rw : Rp K αs (Lv αs st) H w d) (h : QA d (st.set n (.lst zs))) (z : ZOk K αs st H QA Q) : Q w (upd H a (.lst ws)) := by
  have x : Ext αs st H αs (st.set n (.lst zs)) (upd H a (.lst ws)) := Ext.write s ha l
  exact z _ _ _ _ _ (s.write (u := .lst zs) ha l ⟨ws, upd_same, r.mono (x.carry s)⟩) x (rw.mono (x.carry s)) h

/-- the sequence that d is: a list or a tuple -/
def seqOf (st : Store) : D → Option (List D)
  | .tup xs => some xs
  | .scr ns => some (ns.map D.int)
  | d => lstOf st d
theorem rpInts (ns : List Int) : RpAll K αs L H (ns.map V.int) (ns.map D.int) := by
  induction ns with
  | nil => exact .nil
  | cons n ns ih => exact .cons (.int n) ih
theorem seqOf_ok {v : V} {d : D} {xs : List D} (s : SRel K αs st H) (r : Rp K αs (Lv αs st) H v d) (h : seqOf st d = some xs) : ∃ a vs, v = .ref a ∧ (SqL K H a vs ∨ SqT K H a vs) ∧ RpAll K αs (Lv αs st) H vs xs := by
  cases d with
  | tup ys =>
    simp only [seqOf, Option.some.injEq] at h
    subst h
    cases r with
    | tup e t => exact ⟨_, _, rfl, .inr e, t⟩
  | scr ns =>
    simp only [seqOf, Option.some.injEq] at h
    subst h
    cases r with
    | scr e => exact ⟨_, _, rfl, .inl (e.imp (fun z => z.1) fun z => z), rpInts ns⟩
  | _ =>
    obtain ⟨a, vs, e1, e2, e3⟩ := lstOf_ok s r (show lstOf st _ = some xs from h)
    exact ⟨a, vs, e1, .inl (.inl (.inl e2)), e3⟩
end

/-! ### expressions -/
def aVar (i : Nat) : AE := fun S Q _ => ∃ d, S.σ[i]? = some (some d) ∧ Q d S
/-- the name in slot i, its list from now on frozen -/
def aVarF (i : Nat) : AE := fun S Q _ => ∃ n xs, S.σ[i]? = some (some (.ref n)) ∧ S.st[n]? = some (.lst xs) ∧ Q (.lst xs) ⟨S.σ.set i (some (.lst xs)), S.st.set n .gone⟩
def aC (d : D) : AE := fun S Q _ => Q d S
abbrev A2 := D → D → Store → (D → Store → Prop) → Prop
abbrev A1 := D → Store → (D → Store → Prop) → Prop
abbrev AN := List D → Store → (D → Store → Prop) → Prop
def aOp (r : A2) (ta tb : AE) : AE := fun S Q X => ta S (fun x S1 => tb S1 (fun y S2 => r x y S2.st fun d st => Q d ⟨S2.σ, st⟩) X) X
def aUn (r : A1) (ta : AE) : AE := fun S Q X => ta S (fun x S1 => r x S1.st fun d st => Q d ⟨S1.σ, st⟩) X
def aNil : AA := fun S Q _ => Q [] S
def aCons (ta : AE) (tr : AA) : AA := fun S Q X => ta S (fun x S1 => tr S1 (fun xs S2 => Q (x :: xs) S2) X) X
def aCB (r : AN) (t : AA) : AE := fun S Q X => t S (fun ds S1 => r ds S1.st fun d st => Q d ⟨S1.σ, st⟩) X
def aTup (t : AA) : AE := fun S Q X => t S (fun ds S1 => ds.length ≤ sizeLine ∧ Q (.tup ds) S1) X
def aLst (b : Bool) (t : AA) : AE := fun S Q X => t S (fun ds S1 => ds.length ≤ sizeLine ∧ newL b ds S1.st fun d st => Q d ⟨S1.σ, st⟩) X
def aIf (c : AB) (ta tb : AE) : AE := fun S Q X => c S (fun b S1 => if b = true then ta S1 Q X else tb S1 Q X) X
def aTest (t : AE) : AB := fun S Q X => t S (fun d S1 => ∃ b, d = .bl b ∧ Q b S1) X
def aNot (c : AB) : AB := fun S Q X => c S (fun b S1 => Q (!b) S1) X
def aAnd (c d : AB) : AB := fun S Q X => c S (fun b S1 => if b = true then d S1 Q X else Q false S1) X
def aOr (c d : AB) : AB := fun S Q X => c S (fun b S1 => if b = true then Q true S1 else d S1 Q X) X
/-- .. as values (bools) -/
def aAndV (ta tb : AE) : AE := fun S Q X => ta S (fun d S1 => ∃ b, d = .bl b ∧ if b = true then tb S1 Q X else Q (.bl false) S1) X
def aOrV (ta tb : AE) : AE := fun S Q X => ta S (fun d S1 => ∃ b, d = .bl b ∧ if b = true then Q (.bl true) S1 else tb S1 Q X) X
def aNotV (ta : AE) : AE := fun S Q X => ta S (fun d S1 => ∃ b, d = .bl b ∧ Q (.bl (!b)) S1) X

def RS2 (K : PySem.W.Frag) (r : R2) (rA : A2) : Prop := ∀ αs st H x y dx dy Q QA, SRel K αs st H → Rp K αs (Lv αs st) H x dx → Rp K αs (Lv αs st) H y dy → rA dx dy st QA → ZOk K αs st H QA Q → r x y H Q
def RS1 (K : PySem.W.Frag) (r : V → Hp → VK → Prop) (rA : A1) : Prop := ∀ αs st H x dx Q QA, SRel K αs st H → Rp K αs (Lv αs st) H x dx → rA dx st QA → ZOk K αs st H QA Q → r x H Q
def RSN (K : PySem.W.Frag) (r : List V → Hp → VK → Prop) (rA : AN) : Prop := ∀ αs st H xs ds Q QA, SRel K αs st H → RpAll K αs (Lv αs st) H xs ds → rA ds st QA → ZOk K αs st H QA Q → r xs H Q

section
variable {X : Cx} {W : WX} {a b c e : Expr} {es : List Expr} {ta tb : AE} {tc td : AB} {t : AA} {pos : Pos}
theorem jv (i : Nat) {x : Str} {pos : Pos} (hN : X.N[i]? = some x := by rfl) (hv : Vis X.env.scope x := by first | exact Or.inl rfl | exact Or.inr (Or.inl rfl) | exact Or.inr (Or.inr rfl)) (hd : (x == ("__debug__" : Str)) = false := by decide)
    (hcd : (x == ("__classdict__" : Str)) = false := by decide) : JE X W (.Name x pos) (aVar i) :=
  PE.imp (pe_var (i := i) hN hv hd hcd) fun σ H Q ⟨αs, S, QA, XA, R, ⟨d, e, h⟩, q, _⟩ => by
    obtain ⟨v, e1, e2⟩ := R.val i d e
    exact ⟨v, e1, q αs v H d S R R.ext0 e2 h⟩
theorem jc {e : Expr} {v : V} {d : D} (h : PE X e (tC v)) (r : ∀ αs L H, Rp X.K αs L H v d) : JE X W e (aC d) :=
  PE.imp h fun σ H Q ⟨αs, S, QA, XA, R, h, q, _⟩ => q αs v H d S R R.ext0 (r _ _ _) h
theorem j_int {i : Int} {j : Nat} : JE X W (.Constant (.int i) j pos) (aC (.int i)) := jc pe_int fun _ _ _ => .int i
theorem j_bl {i : Bool} {j : Nat} : JE X W (.Constant (.bool i) j pos) (aC (.bl i)) := jc pe_bl fun _ _ _ => .bl i
theorem j_non {j : Nat} : JE X W (.Constant .none j pos) (aC .non) := jc pe_non fun _ _ _ => .non
theorem j_str {x : Str} {j : Nat} : JE X W (.Constant (.str x) j pos) (aC (.str x)) := jc pe_str fun _ _ _ => .str x

theorem conc_op {r : R2} {rA : A2} (hr : RS2 X.K r rA) : ∀ σ H Q, conc X.K W (aOp rA ta tb) σ H Q → tOp r (conc X.K W ta) (conc X.K W tb) σ H Q := fun σ H Q ⟨αs, S, QA, XA, R, h, q, x⟩ => by
  refine ⟨αs, S, _, XA, R, h, fun αs1 v H1 d S1 R1 e1 rv h1 => ?_, x⟩
  refine ⟨αs1, S1, _, XA, R1, h1, fun αs2 w H2 e S2 R2 e2 rw h2 => ?_, x.on R R1 e1⟩
  refine hr αs2 S2.st H2 v w d e Q _ R2.s (rv.mono (e2.carry R1.s)) rw h2 fun αs3 u H3 f st3 s3 e3 ru h3 => ?_
  exact q αs3 u H3 f ⟨S2.σ, st3⟩ (R2.mono e3 s3) ((e1.trans R.s e2 R1.s).trans R.s e3 R2.s) ru h3
theorem j_op {op : Operator} {r : R2} {rA : A2} (ho : OpR X (binaryOp op) r) (hr : RS2 X.K r rA) (ha : JE X W a ta) (hb : JE X W b tb) : JE X W (.BinOp a op b pos) (aOp rA ta tb) := PE.imp (pe_op ho ha hb) (conc_op hr)
theorem j_cmp {op : CmpOp} {r : R2} {rA : A2} (ho : OpR X (compareOp op) r) (hr : RS2 X.K r rA) (ha : JE X W a ta) (hb : JE X W b tb) (hm : behindInMarks op b = false) : JE X W (.Compare a [op] [b] pos) (aOp rA ta tb) := PE.imp (pe_cmpR ho ha hb hm) (conc_op hr)
theorem j_ix {r : R2} {rA : A2} (ho : IxR X r) (hr : RS2 X.K r rA) (ha : JE X W a ta) (hb : JE X W b tb) (hs : PlainIx b) : JE X W (.Subscript a b pos) (aOp rA ta tb) := PE.imp (pe_ix ho ha hb hs) (conc_op hr)
theorem j_un {op : UnaryOp} {r : V → Hp → VK → Prop} {rA : A1} (ho : UnR X (unaryOp op) r) (hr : RS1 X.K r rA) (ha : JE X W a ta) : JE X W (.UnaryOp op a pos) (aUn rA ta) :=
  PE.imp (pe_un ho ha) fun σ H Q ⟨αs, S, QA, XA, R, h, q, x⟩ => by
    refine ⟨αs, S, _, XA, R, h, fun αs1 v H1 d S1 R1 e1 rv h1 => ?_, x⟩
    refine hr αs1 S1.st H1 v d Q _ R1.s rv h1 fun αs3 u H3 f st3 s3 e3 ru h3 => ?_
    exact q αs3 u H3 f ⟨S1.σ, st3⟩ (R1.mono e3 s3) (e1.trans R.s e3 R1.s) ru h3
theorem ja_nil : JA X W [] aNil := PA.imp pa_nil fun σ H Q ⟨αs, S, QA, XA, R, h, q, x⟩ => q αs [] H [] S R R.ext0 .nil h
theorem ja_cons (ha : JE X W e ta) (hr : JA X W es t) (hs : starEach (e :: es) X.env = (false, eval e X.env) :: starEach es X.env := by rfl) : JA X W (e :: es) (aCons ta t) :=
  PA.imp (pa_cons ha hr hs) fun σ H Q ⟨αs, S, QA, XA, R, h, q, x⟩ => by
    refine ⟨αs, S, _, XA, R, h, fun αs1 v H1 d S1 R1 e1 rv h1 => ?_, x⟩
    refine ⟨αs1, S1, _, XA, R1, h1, fun αs2 ws H2 es S2 R2 e2 rw h2 => ?_, x.on R R1 e1⟩
    exact q αs2 _ H2 _ S2 R2 (e1.trans R.s e2 R1.s) (.cons (rv.mono (e2.carry R1.s)) rw) h2
theorem j_tup {x1 : Nat} (h : JA X W es t) : JE X W (.Tuple es x1 pos) (aTup t) :=
  PE.imp (pe_tup h) fun σ H Q ⟨αs, S, QA, XA, R, h, q, x⟩ => by
    refine ⟨αs, S, _, XA, R, h, fun αs1 vs H1 ds S1 R1 e1 rv ⟨hl, h1⟩ => ⟨by rw [rv.length]; exact hl, fun p hp => ?_⟩, x⟩
    exact q αs1 _ _ _ S1 (R1.mono (Ext.new R1.s hp) (R1.s.new hp)) (e1.trans R.s (Ext.new R1.s hp) R1.s) (Rp.newT R1.s hp rv) h1
theorem ZOk.of {K : PySem.W.Frag} {αs αs1 : Al} {σ : L2.St} {H H1 : Hp} {S S1 : AS} {QA : AQ} {Q : VK} (q : QOk K αs S.st H σ QA Q) (R : Rel K αs σ H S) (R1 : Rel K αs1 σ H1 S1) (e1 : Ext αs S.st H αs1 S1.st H1) :
    ZOk K αs1 S1.st H1 (fun d st => QA d ⟨S1.σ, st⟩) Q := fun αs' v H' d st' s' e' r h => q αs' v H' d ⟨S1.σ, st'⟩ (R1.mono e' s') (e1.trans R.s e' R1.s) r h
theorem j_lst (bl : Bool) (h : JA X W es t) : JE X W (.List es pos) (aLst bl t) :=
  PE.imp (pe_lst h) fun σ H Q ⟨αs, S, QA, XA, R, h, q, x⟩ => by
    refine ⟨αs, S, _, XA, R, h, fun αs1 vs H1 ds S1 R1 e1 rv ⟨hl, h1⟩ => ⟨by rw [rv.length]; exact hl, fun p hp => ?_⟩, x⟩
    exact newL_ok R1.s hp rv h1 (ZOk.of q R R1 e1)
theorem conc_cb {r : List V → Hp → VK → Prop} {rA : AN} (hr : RSN X.K r rA) : ∀ σ H Q, conc X.K W (aCB rA t) σ H Q → tCB r (concA X.K W t) σ H Q := fun σ H Q ⟨αs, S, QA, XA, R, h, q, x⟩ => by
  refine ⟨αs, S, _, XA, R, h, fun αs1 vs H1 ds S1 R1 e1 rv h1 => ?_, x⟩
  exact hr αs1 S1.st H1 vs ds Q _ R1.s rv h1 (ZOk.of q R R1 e1)
theorem j_callB {id : String} {r : List V → Hp → VK → Prop} {rA : AN} {x : Str} {p : Pos} (hc : CallR X (.builtin id) r) (hr : RSN X.K r rA) (hg : Gl X x) (hm : X.mg x = none) (hv : bootBuiltins x = some (.builtin id)) (ha : JA X W (e :: es) t) (hn : x ≠ "__name__" := by decide) (hdb : (x == ("__debug__" : Str)) = false := by decide)
    (he : starEach (e :: es) X.env = (false, eval e X.env) :: starEach es X.env := by rfl) (hpl : (backTo pos (starEach es X.env)).any (·.1) = false := by rfl) : JE X W (.Call (.Name x p) (e :: es) [] pos) (aCB rA t) :=
  PE.imp (pe_callB hc hg hm hv ha hn hdb he hpl) (conc_cb hr)
theorem j_callTy {T : String} {r : List V → Hp → VK → Prop} {rA : AN} {x : Str} {p : Pos} (hc : CallR X (.type T) r) (hr : RSN X.K r rA) (hg : Gl X x) (hm : X.mg x = none) (hv : bootBuiltins x = some (.type T)) (ha : JA X W (e :: es) t) (hn : x ≠ "__name__" := by decide) (hdb : (x == ("__debug__" : Str)) = false := by decide)
    (he : starEach (e :: es) X.env = (false, eval e X.env) :: starEach es X.env := by rfl) (hpl : (backTo pos (starEach es X.env)).any (·.1) = false := by rfl) : JE X W (.Call (.Name x p) (e :: es) [] pos) (aCB rA t) :=
  PE.imp (pe_callTy hc hg hm hv ha hn hdb he hpl) (conc_cb hr)
theorem j_ifExp (hc : JB X W c tc) (ha : JE X W a ta) (hb : JE X W b tb) : JE X W (.IfExp c a b pos) (aIf tc ta tb) :=
  PE.imp (pe_ifExp hc ha hb) fun σ H Q ⟨αs, S, QA, XA, R, h, q, x⟩ => by
    refine ⟨αs, S, _, XA, R, h, fun αs1 v H1 S1 R1 e1 h1 => ?_, x⟩
    cases v with
    | true => exact ⟨αs1, S1, QA, XA, R1, h1, q.on R R1 e1, x.on R R1 e1⟩
    | false => exact ⟨αs1, S1, QA, XA, R1, h1, q.on R R1 e1, x.on R R1 e1⟩
theorem conc_test : ∀ σ H Q, concB X.K W (aTest ta) σ H Q → tB (conc X.K W ta) σ H Q := fun σ H Q ⟨αs, S, QA, XA, R, h, q, x⟩ => by
  refine ⟨αs, S, _, XA, R, h, fun αs1 v H1 d S1 R1 e1 rv ⟨b, hd, h1⟩ => ?_, x⟩
  subst hd
  cases rv
  exact ⟨b, rfl, q αs1 b H1 S1 R1 e1 h1⟩
theorem jt (h : JE X W e ta) (he : ∀ whole, isTrue e X.env whole = (do let v ← whole; standAt e.pos; holding [v] (truthy v)) := by intro _; rfl) : JB X W e (aTest ta) := PT.imp (pt_val h he) conc_test
theorem jt_cmp {op : CmpOp} {r : R2} {rA : A2} (ho : OpR X (compareOp op) r) (hr : RS2 X.K r rA) (ha : JE X W a ta) (hb : JE X W b tb) (hm : behindInMarks op b = false) : JB X W (.Compare a [op] [b] pos) (aTest (aOp rA ta tb)) :=
  PT.imp (pt_cmpR ho ha hb hm) fun σ H Q h => by
    obtain ⟨αs, S, QA, XA, R, h, q, x⟩ := h
    exact conc_op hr σ H _ ⟨αs, S, _, XA, R, h, fun αs1 v H1 d S1 R1 e1 rv ⟨b, hd, h1⟩ => by
      subst hd
      cases rv
      exact ⟨b, rfl, q αs1 b H1 S1 R1 e1 h1⟩, x⟩
theorem jt_not (hc : JB X W c tc) : JB X W (.UnaryOp .Not c pos) (aNot tc) :=
  PT.imp (pt_not hc) fun σ H Q ⟨αs, S, QA, XA, R, h, q, x⟩ => ⟨αs, S, _, XA, R, h, fun αs1 v H1 S1 R1 e1 h1 => q αs1 (!v) H1 S1 R1 e1 h1, x⟩
/-- a test whatever its 'whole' is -/
abbrev JW (X : Cx) (W : WX) (e : Expr) (t : AB) : Prop := PW X e (concB X.K W t)
theorem PW.imp {X : Cx} {e : Expr} {t t' : TT} (h : PW X e t) (i : ∀ σ H Q, t' σ H Q → t σ H Q) : PW X e t' := ⟨fun wh pins s σ H Q I q => h.run wh pins s σ H Q I (i σ H Q q)⟩
theorem jw_and1 (h : JB X W c tc) : JW X W (.BoolOp .And [c] pos) tc := pw_and1 h
theorem jw_or1 (h : JB X W c tc) : JW X W (.BoolOp .Or [c] pos) tc := pw_or1 h
theorem jw_and {rest : List Expr} (ha : JB X W c tc) (hb : JW X W (.BoolOp .And (b :: rest) pos) td) : JW X W (.BoolOp .And (c :: b :: rest) pos) (aAnd tc td) :=
  PW.imp (pw_and ha hb) fun σ H Q ⟨αs, S, QA, XA, R, h, q, x⟩ => by
    refine ⟨αs, S, _, XA, R, h, fun αs1 v H1 S1 R1 e1 h1 => ?_, x⟩
    cases v with
    | true => exact ⟨αs1, S1, QA, XA, R1, h1, q.on R R1 e1, x.on R R1 e1⟩
    | false => exact q αs1 false H1 S1 R1 e1 h1
theorem jw_or {rest : List Expr} (ha : JB X W c tc) (hb : JW X W (.BoolOp .Or (b :: rest) pos) td) : JW X W (.BoolOp .Or (c :: b :: rest) pos) (aOr tc td) :=
  PW.imp (pw_or ha hb) fun σ H Q ⟨αs, S, QA, XA, R, h, q, x⟩ => by
    refine ⟨αs, S, _, XA, R, h, fun αs1 v H1 S1 R1 e1 h1 => ?_, x⟩
    cases v with
    | true => exact q αs1 true H1 S1 R1 e1 h1
    | false => exact ⟨αs1, S1, QA, XA, R1, h1, q.on R R1 e1, x.on R R1 e1⟩
theorem jt_bool (h : JW X W e tc) : JB X W e tc := h.pt
theorem j_one {op} (h : JE X W a ta) : JE X W (.BoolOp op [a] pos) ta := pe_one h
theorem j_and {rest : List Expr} (ha : JE X W a ta) (hb : JE X W (.BoolOp .And (b :: rest) pos) tb) : JE X W (.BoolOp .And (a :: b :: rest) pos) (aAndV ta tb) :=
  PE.imp (pe_and ha hb) fun σ H Q ⟨αs, S, QA, XA, R, h, q, x⟩ => by
    refine ⟨αs, S, _, XA, R, h, fun αs1 v H1 d S1 R1 e1 rv ⟨b, hd, h1⟩ => ?_, x⟩
    subst hd
    cases rv
    refine ⟨b, rfl, ?_⟩
    cases b with
    | true => exact ⟨αs1, S1, QA, XA, R1, h1, q.on R R1 e1, x.on R R1 e1⟩
    | false => exact q αs1 _ H1 _ S1 R1 e1 (.bl false) h1
theorem j_or {rest : List Expr} (ha : JE X W a ta) (hb : JE X W (.BoolOp .Or (b :: rest) pos) tb) : JE X W (.BoolOp .Or (a :: b :: rest) pos) (aOrV ta tb) :=
  PE.imp (pe_or ha hb) fun σ H Q ⟨αs, S, QA, XA, R, h, q, x⟩ => by
    refine ⟨αs, S, _, XA, R, h, fun αs1 v H1 d S1 R1 e1 rv ⟨b, hd, h1⟩ => ?_, x⟩
    subst hd
    cases rv
    refine ⟨b, rfl, ?_⟩
    cases b with
    | false => exact ⟨αs1, S1, QA, XA, R1, h1, q.on R R1 e1, x.on R R1 e1⟩
    | true => exact q αs1 _ H1 _ S1 R1 e1 (.bl true) h1
theorem j_not (ha : JE X W a ta) : JE X W (.UnaryOp .Not a pos) (aNotV ta) :=
  PE.imp (pe_not ha) fun σ H Q ⟨αs, S, QA, XA, R, h, q, x⟩ => by
    refine ⟨αs, S, _, XA, R, h, fun αs1 v H1 d S1 R1 e1 rv ⟨b, hd, h1⟩ => ?_, x⟩
    subst hd
    cases rv
    exact ⟨b, rfl, q αs1 _ H1 _ S1 R1 e1 (.bl _) h1⟩
end
end Ab
set_option Elab.async false
set_option linter.all false
set_option maxRecDepth 100000
set_option autoImplicit false
/-! Operations. -/
namespace Ab
open PySem PySem.Spec PyProof.Rows L2

/-! ### ints -/
/-- two ints, under C -/
def i2 (C : Int → Int → Prop) (g : Int → Int → D) : A2 := fun x y st Q => match x with
  | .int i => (match y with
    | .int j => C i j ∧ Q (g i j) st
    | _ => False)
  | _ => False
def MulOk (i j : Int) : Prop := IntMulOk i j
def DivOk (i j : Int) : Prop := j ≠ 0 ∧ Builtin.divisionGoesByPylong i j = false
def PowOk (i j : Int) : Prop := 0 ≤ j ∧ (Builtin.Int.intBits i : Int) * j ≤ 2 ^ 27

section
variable {K : PySem.W.Frag}
theorem rs_i2 {C : Int → Int → Prop} {g : Int → Int → D} {gv : Int → Int → V} (hg : ∀ i j αs L H, Rp K αs L H (gv i j) (g i j)) : RS2 K (rI C gv) (i2 C g) := fun αs st H x y dx dy Q QA s rx ry h z => by
  cases rx <;> simp only [i2] at h
  case int i =>
    cases ry <;> simp only at h
    case int j => exact ⟨i, j, rfl, rfl, h.1, z αs _ H _ st s (Ext.refl _ _ _ s.len) (hg i j αs _ H) h.2⟩
theorem rs_i2' {g : Int → Int → D} {gv : Int → Int → V} (hg : ∀ i j αs L H, Rp K αs L H (gv i j) (g i j)) : RS2 K (rI0 gv) (i2 (fun _ _ => True) g) := fun αs st H x y dx dy Q QA s rx ry h z => by
  cases rx <;> simp only [i2] at h
  case int i =>
    cases ry <;> simp only at h
    case int j => exact ⟨i, j, rfl, rfl, z αs _ H _ st s (Ext.refl _ _ _ s.len) (hg i j αs _ H) h.2⟩
/-- one or the other -/
theorem RS2.left {r r' : R2} {rA : A2} (h : RS2 K r rA) : RS2 K (fun x y H Q => r x y H Q ∨ r' x y H Q) rA := fun αs st H x y dx dy Q QA s rx ry q z => .inl (h αs st H x y dx dy Q QA s rx ry q z)
theorem RS2.right {r r' : R2} {rA : A2} (h : RS2 K r' rA) : RS2 K (fun x y H Q => r x y H Q ∨ r' x y H Q) rA := fun αs st H x y dx dy Q QA s rx ry q z => .inr (h αs st H x y dx dy Q QA s rx ry q z)
end
def subA : A2 := i2 (fun _ _ => True) fun i j => .int (i - j)
def mulI : A2 := i2 MulOk fun i j => .int (i * j)
def fdivA : A2 := i2 DivOk fun i j => .int (i.fdiv j)
/-- .. of any size -/
def fdivP : A2 := i2 (fun _ j => j ≠ 0) fun i j => .int (i.fdiv j)
def modA : A2 := i2 (fun _ j => j ≠ 0) fun i j => .int (i.fmod j)
def powA : A2 := i2 PowOk fun i j => .int (i ^ j.toNat)
def andA : A2 := i2 (fun _ _ => True) fun i j => .int (Builtin.bitAnd i j)
def orA : A2 := i2 (fun _ _ => True) fun i j => .int (Builtin.bitOr i j)
def shlA : A2 := i2 CPow fun i j => .int (i * 2 ^ j.toNat)
def shrA : A2 := i2 (fun _ j => 0 ≤ j) fun i j => .int (i / 2 ^ j.toNat)
section
variable {X : Cx}
theorem op_mulI : OpR X (binaryOp .Mult) (rI MulOk fun i j => .int (i * j)) := opI fun _ _ _ _ _ _ _ hc q => mul_int q hc
theorem op_fdivA : OpR X (binaryOp .FloorDiv) (rI DivOk fun i j => .int (i.fdiv j)) := opI fun _ _ _ _ _ _ _ hc q => floordiv_int hc.1 q (.inl hc.2)
theorem op_powA : OpR X (binaryOp .Pow) (rI PowOk fun i j => .int (i ^ j.toNat)) := opI fun _ _ _ _ _ _ _ hc q => pow_int hc.1 hc.2 q
variable {K : PySem.W.Frag}
theorem rs_sub : RS2 K (rI0 fun i j => .int (i - j)) subA := rs_i2' fun i j _ _ _ => .int _
theorem rs_mulI : RS2 K (rI MulOk fun i j => .int (i * j)) mulI := rs_i2 fun i j _ _ _ => .int _
theorem rs_fdivA : RS2 K (rI DivOk fun i j => .int (i.fdiv j)) fdivA := rs_i2 fun i j _ _ _ => .int _
theorem rs_fdivP : RS2 K (rI (fun _ j => j ≠ 0) fun i j => .int (i.fdiv j)) fdivP := rs_i2 fun i j _ _ _ => .int _
theorem rs_mod : RS2 K (rI (fun _ j => j ≠ 0) fun i j => .int (i.fmod j)) modA := rs_i2 fun i j _ _ _ => .int _
theorem rs_pow : RS2 K (rI PowOk fun i j => .int (i ^ j.toNat)) powA := rs_i2 fun i j _ _ _ => .int _
theorem rs_and : RS2 K (rI0 fun i j => .int (Builtin.bitAnd i j)) andA := rs_i2' fun i j _ _ _ => .int _
theorem rs_or : RS2 K (rI0 fun i j => .int (Builtin.bitOr i j)) orA := rs_i2' fun i j _ _ _ => .int _
theorem rs_shl : RS2 K (rI CPow fun i j => .int (i * 2 ^ j.toNat)) shlA := rs_i2 fun i j _ _ _ => .int _
theorem rs_shr : RS2 K (rI (fun _ j => 0 ≤ j) fun i j => .int (i / 2 ^ j.toNat)) shrA := rs_i2 fun i j _ _ _ => .int _

/-! ### + and * of sequences and texts -/
/-- a tuple of two parts: the other one itself, where one is empty; the same to whoever reads it -/
def addA (b : Bool) : A2 := fun x y st Q => match x with
  | .int i => (match y with
    | .int j => Q (.int (i + j)) st
    | _ => False)
  | .str i => (match y with
    | .str j => i.length + j.length ≤ sizeLine ∧ Q (.str (i ++ j)) st
    | _ => False)
  | .tup xs => (match y with
    | .tup ys => xs.length + ys.length ≤ sizeLine ∧ Q (.tup (xs ++ ys)) st
    | _ => False)
  | x => ∃ xs ys, lstOf st x = some xs ∧ lstOf st y = some ys ∧ xs.length + ys.length ≤ sizeLine ∧ newL b (xs ++ ys) st Q
def rAddZ (K : PySem.W.Frag) : R2 := fun x y H Q => (rI0 (fun i j => .int (i + j)) x y H Q) ∨ (∃ i j, x = .str i ∧ y = .str j ∧ i.length + j.length ≤ sizeLine ∧ Q (.str (i ++ j)) H) ∨ rCatA K x y H Q ∨ rCat x y H Q
theorem op_addZ : OpR X (binaryOp .Add) (rAddZ X.K) := op_add.or (op_add_str.or (op_catA.or op_cat))
theorem ZOk.here {αs : Al} {st : Store} {H : Hp} {QA : D → Store → Prop} {Q : VK} {v : V} {d : D} (z : ZOk K αs st H QA Q) (s : SRel K αs st H) (r : Rp K αs (Lv αs st) H v d) (h : QA d st) : Q v H := z αs v H d st s (Ext.refl _ _ _ s.len) r h
theorem newT_ok {αs : Al} {st : Store} {H : Hp} {QA : D → Store → Prop} {Q : VK} {p : Addr} {vs : List V} {ds : List D} (s : SRel K αs st H) (hp : H p = none) (r : RpAll K αs (Lv αs st) H vs ds) (h : QA (.tup ds) st) (z : ZOk K αs st H QA Q) : Q (.ref p) (upd H p (.tup vs)) :=
  z αs _ _ _ st (s.new hp) (Ext.new s hp) (Rp.newT s hp r) h
theorem rs_add (b : Bool) : RS2 K (rAddZ K) (addA b) := fun αs st H x y dx dy Q QA s rx ry h z => by
  have lists : ∀ xs ys, lstOf st dx = some xs → lstOf st dy = some ys → xs.length + ys.length ≤ sizeLine → newL b (xs ++ ys) st QA → rAddZ K x y H Q := fun xs ys h1 h2 h3 h4 => by
    obtain ⟨a1, v1, e1, f1, r1⟩ := lstOf_ok s rx h1
    obtain ⟨a2, v2, e2, f2, r2⟩ := lstOf_ok s ry h2
    refine .inr (.inr (.inr ⟨a1, a2, v1, v2, e1, e2, f1, f2, by rw [r1.length, r2.length]; exact h3, fun p hp => newL_ok s hp (r1.append r2) h4 z⟩))
  cases dx <;> simp only [addA] at h
  case int i =>
    cases dy <;> simp only at h
    cases rx; cases ry
    exact .inl ⟨_, _, rfl, rfl, z.here s (.int _) h⟩
  case str i =>
    cases dy <;> simp only at h
    cases rx; cases ry
    exact .inr (.inl ⟨_, _, rfl, rfl, h.1, z.here s (.str _) h.2⟩)
  case tup xs =>
    cases dy <;> simp only at h
    rename_i ys
    cases rx with
    | @tup a1 v1 _ e1 r1 =>
      cases ry with
      | @tup a2 v2 _ e2 r2 =>
        refine .inr (.inr (.inl ⟨a1, a2, v1, v2, rfl, rfl, e1, e2, by rw [r1.length, r2.length]; exact h.1, fun hn => ?_, fun hn hm => ?_, fun hn hm p hp => ?_⟩))
        · subst hn
          have e := r1.length
          have hx : xs = [] := by cases xs with | nil => rfl | cons _ _ => cases e
          subst hx
          exact z.here s (.tup e2 r2) h.2
        · subst hm
          have e := r2.length
          have hx : ys = [] := by cases ys with | nil => rfl | cons _ _ => cases e
          subst hx
          rw [List.append_nil] at h
          exact z.here s (.tup e1 r1) h.2
        · exact newT_ok s hp (r1.append r2) h.2 z
  all_goals (obtain ⟨xs, ys, h1, h2, h3, h4⟩ := h; exact lists xs ys h1 h2 h3 h4)

/-- [..] * n, n * [..] not; ints -/
def mulA (b : Bool) : A2 := fun x y st Q => match x with
  | .int i => (match y with
    | .int j => MulOk i j ∧ Q (.int (i * j)) st
    | _ => False)
  | x => (match y with
    | .int k => ∃ xs, lstOf st x = some xs ∧ -(2 ^ 63) ≤ k ∧ k < 2 ^ 63 ∧ xs.length * k.toNat ≤ sizeLine ∧ newL b (List.replicate k.toNat xs).flatten st Q
    | _ => False)
def rMulZ : R2 := fun x y H Q => rI MulOk (fun i j => .int (i * j)) x y H Q ∨ rRep x y H Q
theorem op_mulZ : OpR X (binaryOp .Mult) rMulZ := op_mulI.or op_rep
theorem rs_mul (b : Bool) : RS2 K rMulZ (mulA b) := fun αs st H x y dx dy Q QA s rx ry h z => by
  cases dx <;> cases dy <;> simp only [mulA] at h
  case int.int =>
    cases rx; cases ry
    exact .inl ⟨_, _, rfl, rfl, h.1, z.here s (.int _) h.2⟩
  all_goals
    (obtain ⟨xs, h1, h2, h3, h4, h5⟩ := h
     obtain ⟨a1, v1, e1, f1, r1⟩ := lstOf_ok s rx h1
     cases ry
     exact .inr ⟨a1, _, v1, e1, rfl, f1, h2, h3, by rw [r1.length]; exact h4, fun p hp => newL_ok s hp (r1.rep _) h5 z⟩)

def negA : A1 := fun x st Q => match x with
  | .int i => Q (.int (-i)) st
  | _ => False
theorem rs_neg : RS1 K (rU fun i => .int (-i)) negA := fun αs st H x dx Q QA s rx h z => by
  cases dx <;> simp only [negA] at h
  cases rx
  exact ⟨_, rfl, z.here s (.int _) h⟩

/-! ### comparisons -/
/-- order of two ints or two texts -/
def cmpA (g : Int → Int → Bool) (gs : Str → Str → Bool) : A2 := fun x y st Q => match x with
  | .int i => (match y with
    | .int j => Q (.bl (g i j)) st
    | _ => False)
  | .str i => (match y with
    | .str j => Q (.bl (gs i j)) st
    | _ => False)
  | _ => False
def ltA : A2 := cmpA (fun i j => decide (i < j)) fun i j => decide (i.cps.toList < j.cps.toList)
def leA : A2 := cmpA (fun i j => decide (i ≤ j)) fun i j => !decide (j.cps.toList < i.cps.toList)
def gtA : A2 := cmpA (fun i j => decide (j < i)) fun i j => decide (j.cps.toList < i.cps.toList)
def geA : A2 := cmpA (fun i j => decide (j ≤ i)) fun i j => !decide (i.cps.toList < j.cps.toList)
def rCmpZ (g : Int → Int → Bool) (gs : Str → Str → Bool) : R2 := fun x y H Q => rI0 (fun i j => .bl (g i j)) x y H Q ∨ ∃ i j, x = .str i ∧ y = .str j ∧ Q (.bl (gs i j)) H
theorem rs_cmp (g : Int → Int → Bool) (gs : Str → Str → Bool) : RS2 K (rCmpZ g gs) (cmpA g gs) := fun αs st H x y dx dy Q QA s rx ry h z => by
  cases dx <;> cases dy <;> simp only [cmpA] at h
  · cases rx; cases ry; exact .inl ⟨_, _, rfl, rfl, z.here s (.bl _) h⟩
  · cases rx; cases ry; exact .inr ⟨_, _, rfl, rfl, z.here s (.bl _) h⟩
theorem op_ltZ : OpR X (compareOp .Lt) (rCmpZ (fun i j => decide (i < j)) fun i j => decide (i.cps.toList < j.cps.toList)) := op_lt.or op_lt_str
theorem op_leZ : OpR X (compareOp .LtE) (rCmpZ (fun i j => decide (i ≤ j)) fun i j => !decide (j.cps.toList < i.cps.toList)) := op_le.or op_le_str
theorem op_gtZ : OpR X (compareOp .Gt) (rCmpZ (fun i j => decide (j < i)) fun i j => decide (j.cps.toList < i.cps.toList)) := op_gt.or op_gt_str
theorem op_geZ : OpR X (compareOp .GtE) (rCmpZ (fun i j => decide (j ≤ i)) fun i j => !decide (i.cps.toList < j.cps.toList)) := op_ge.or op_ge_str

/-! data: what == reads -/
mutual
def toPy : D → Option PyData
  | .non => some .none
  | .bl b => some (.bool b)
  | .int i => some (.int i)
  | .str x => some (.str x)
  | .tup xs => (toPys xs).map .tuple
  | .lst xs => (toPys xs).map .list
  | .scr ns => some (.list (ns.map .int))
  | _ => none
def toPys : List D → Option (List PyData)
  | [] => some []
  | x :: r => match toPy x with
    | some a => (toPys r).map (a :: ·)
    | none => none
end
theorem dpInts {H : Hp} : ∀ ns : List Int, DpAll K H (ns.map V.int) (ns.map PyData.int)
  | [] => .nil
  | n :: r => .cons (.int n) (dpInts r)
mutual
theorem toPy_ok {αs : Al} {L : Addr → Prop} {H : Hp} : ∀ {v : V} {d : D} {p : PyData}, Rp K αs L H v d → toPy d = some p → Dp K H v p
  | _, _, _, .non, e => by simp only [toPy, Option.some.injEq] at e; subst e; exact .non
  | _, _, _, .bl b, e => by simp only [toPy, Option.some.injEq] at e; subst e; exact .bl b
  | _, _, _, .int i, e => by simp only [toPy, Option.some.injEq] at e; subst e; exact .int i
  | _, _, _, .str x, e => by simp only [toPy, Option.some.injEq] at e; subst e; exact .str x
  | _, _, _, .tup h t, e => by
    simp only [toPy, Option.map_eq_some_iff] at e
    obtain ⟨ps, e1, e2⟩ := e
    subst e2
    exact .tup h (toPys_ok t e1)
  | _, _, _, .lst h n t, e => by
    simp only [toPy, Option.map_eq_some_iff] at e
    obtain ⟨ps, e1, e2⟩ := e
    subst e2
    exact .lst (.inl (.inl h)) (toPys_ok t e1)
  | _, _, _, .scr h, e => by
    simp only [toPy, Option.some.injEq] at e; subst e
    exact .lst (h.imp (fun z => z.1) fun z => z) (dpInts _)
  | _, _, _, .dk h n t, e => by simp only [toPy] at e; cases e
  | _, _, _, .ref h, e => by simp only [toPy] at e; cases e
  | _, _, _, .ins h n t, e => by simp only [toPy] at e; cases e
  | _, _, _, .adr a, e => by simp only [toPy] at e; cases e
  | _, _, _, .ty n, e => by simp only [toPy] at e; cases e
  | _, _, _, .exc h t, e => by simp only [toPy] at e; cases e
  | _, _, _, .exc0, e => by simp only [toPy] at e; cases e
theorem toPys_ok {αs : Al} {L : Addr → Prop} {H : Hp} : ∀ {vs : List V} {ds : List D} {ps : List PyData}, RpAll K αs L H vs ds → toPys ds = some ps → DpAll K H vs ps
  | _, _, _, .nil, e => by simp only [toPys, Option.some.injEq] at e; subst e; exact .nil
  | _, _, _, .cons r t, e => by
    simp only [toPys] at e
    split at e
    · rename_i a ha
      simp only [Option.map_eq_some_iff] at e
      obtain ⟨ps, e1, e2⟩ := e
      subst e2
      exact .cons (toPy_ok r ha) (toPys_ok t e1)
    · cases e
end
/-- what stands at a live place, frozen for a look -/
def look (st : Store) : D → D
  | .ref n => match st[n]? with
    | some (.lst xs) => .lst xs
    | _ => .ref n
  | d => d
theorem look_ok {αs : Al} {st : Store} {H : Hp} {v : V} {d : D} {p : PyData} (s : SRel K αs st H) (r : Rp K αs (Lv αs st) H v d) (e : toPy (look st d) = some p) : Dp K H v p := by
  cases d with
  | ref n =>
    simp only [look] at e
    split at e
    · rename_i xs hx
      obtain ⟨a, vs, e1, _, _, e2, e3⟩ := live_ok s r hx
      subst e1
      simp only [toPy, Option.map_eq_some_iff] at e
      obtain ⟨ps, e4, e5⟩ := e
      subst e5
      exact .lst (.inl (.inl e2)) (toPys_ok e3 e4)
    · simp only [toPy] at e; cases e
  | _ => exact toPy_ok r e
def eqA (neg : Bool) : A2 := fun x y st Q => ∃ a b, toPy (look st x) = some a ∧ toPy (look st y) = some b ∧ SeqAt.shaped a = true ∧ SeqAt.shaped b = true ∧ Q (.bl (PyData.eqv a b != neg)) st
theorem rs_eq : RS2 K (rEqD K) (eqA false) := fun αs st H x y dx dy Q QA s rx ry ⟨a, b, e1, e2, s1, s2, h⟩ z => ⟨a, b, look_ok s rx e1, look_ok s ry e2, s1, s2, z.here s (.bl _) (by rw [Bool.bne_false] at h; exact h)⟩
theorem rs_ne : RS2 K (rNeD K) (eqA true) := fun αs st H x y dx dy Q QA s rx ry ⟨a, b, e1, e2, s1, s2, h⟩ z => ⟨a, b, look_ok s rx e1, look_ok s ry e2, s1, s2, z.here s (.bl _) (by rw [Bool.bne_true] at h; exact h)⟩

/-- x is None -/
def isNonD : D → Bool
  | .non => true
  | _ => false
def isA (neg : Bool) : A2 := fun x y st Q => match y with
  | .non => Q (.bl (isNonD x != neg)) st
  | .bl b => (match x with
    | .bl a => Q (.bl (decide (a = b) != neg)) st
    | _ => False)
  | _ => False
def rIsZ (neg : Bool) : R2 := fun x y H Q => (y = .non ∧ Q (.bl (decide (x = .non) != neg)) H) ∨ ∃ a b, x = .bl a ∧ y = .bl b ∧ Q (.bl (decide (a = b) != neg)) H
theorem op_isZ : OpR X (compareOp .Is) (rIsZ false) := fun pins s σ H x y v u Q I rx ry h => (op_isN.or op_isBl) pins s σ H x y v u Q I rx ry (h.imp (fun ⟨a, b⟩ => ⟨a, by rw [Bool.bne_false] at b; exact b⟩) fun ⟨a, b, e1, e2, q⟩ => ⟨a, b, e1, e2, by rw [Bool.bne_false] at q; exact q⟩)
theorem op_isnotZ : OpR X (compareOp .IsNot) (rIsZ true) := fun pins s σ H x y v u Q I rx ry h => (op_notN.or op_notBl) pins s σ H x y v u Q I rx ry (h.imp (fun ⟨a, b⟩ => ⟨a, by rw [Bool.bne_true] at b; exact b⟩) fun ⟨a, b, e1, e2, q⟩ => ⟨a, b, e1, e2, by rw [Bool.bne_true] at q; exact q⟩)
theorem isNon_ok {αs : Al} {L : Addr → Prop} {H : Hp} {v : V} {d : D} (r : Rp K αs L H v d) : decide (v = .non) = isNonD d := by
  cases r <;> rfl
theorem rs_is (neg : Bool) : RS2 K (rIsZ neg) (isA neg) := fun αs st H x y dx dy Q QA s rx ry h z => by
  cases dy <;> simp only [isA] at h
  case non =>
    cases ry
    exact .inl ⟨rfl, by rw [isNon_ok rx]; exact z.here s (.bl _) h⟩
  case bl b =>
    cases dx <;> simp only at h
    cases rx; cases ry
    exact .inr ⟨_, _, rfl, rfl, z.here s (.bl _) h⟩

/-! ### subscripts, slices -/
def ixA : A2 := fun x y st Q => match y with
  | .int i => (match x with
    | .str z => z.length ≤ sizeLine ∧ ∃ c, atI z.cps.toList i = some c ∧ Q (.str ⟨#[c]⟩) st
    | x => ∃ xs d, seqOf st x = some xs ∧ atI xs i = some d ∧ Q d st)
  | _ => False
theorem atI_rp {αs : Al} {L : Addr → Prop} {H : Hp} {vs : List V} {ds : List D} {i : Int} {d : D} (r : RpAll K αs L H vs ds) (h : atI ds i = some d) : ∃ v, atI vs i = some v ∧ Rp K αs L H v d := by
  unfold atI at h ⊢
  rw [r.length]
  cases e : ixN ds.length i with
  | none => rw [e] at h; cases h
  | some j =>
    rw [e] at h
    simp only [Option.bind_some] at h ⊢
    exact r.get h
theorem rs_ix : RS2 K (rIx K) ixA := fun αs st H x y dx dy Q QA s rx ry h z => by
  have seqs : ∀ i xs d, y = .int i → seqOf st dx = some xs → atI xs i = some d → QA d st → rIx K x y H Q := fun i xs d hy h1 h2 h3 => by
    obtain ⟨a, vs, e1, e2, r⟩ := seqOf_ok s rx h1
    obtain ⟨v, e3, e4⟩ := atI_rp r h2
    rcases e2 with e2 | e2
    · exact .inl ⟨a, vs, i, v, e1, hy, e2, e3, z.here s e4 h3⟩
    · exact .inr (.inl ⟨a, vs, i, v, e1, hy, e2, e3, z.here s e4 h3⟩)
  cases dy <;> simp only [ixA] at h
  cases ry
  cases dx <;> simp only at h
  case str =>
    cases rx
    obtain ⟨h1, c, h2, h3⟩ := h
    exact .inr (.inr ⟨_, _, c, rfl, rfl, h1, h2, z.here s (.str _) h3⟩)
  all_goals (obtain ⟨xs, d, h1, h2, h3⟩ := h; exact seqs _ xs d rfl h1 h2 h3)

abbrev AO := AS → (Option Int → AS → Prop) → AX → Prop
def aNoPart : AO := fun S Q _ => Q none S
def aPart (t : AE) : AO := fun S Q X => t S (fun d S1 => ∃ i, d = .int i ∧ Q (some i) S1) X
abbrev ASl := D → Option Int → Option Int → Store → (D → Store → Prop) → Prop
def aSl (r : ASl) (t : AE) (lo hi : AO) : AE := fun S Q X => t S (fun x S1 => lo S1 (fun l S2 => hi S2 (fun u S3 => r x l u S3.st fun d st => Q d ⟨S3.σ, st⟩) X) X) X
def concO (K : PySem.W.Frag) (W : WX) (t : AO) : TO := fun σ H Q => ∃ αs S QA XA, Rel K αs σ H S ∧ t S QA XA ∧ (∀ αs' o H' S', Rel K αs' σ H' S' → Ext αs S.st H αs' S'.st H' → QA o S' → Q o H') ∧ XOk K W αs S.st H σ XA
def cutD (xs : List D) (lo hi : Option Int) : List D := (xs.drop (HT.sIx xs.length 0 lo)).take (HT.sIx xs.length xs.length hi - HT.sIx xs.length 0 lo)
def slA (b : Bool) : ASl := fun x lo hi st Q => match x with
  | .str z => z.length ≤ sizeLine ∧ Q (.str (cutS z lo hi)) st
  | .tup xs => Q (.tup (cutD xs lo hi)) st
  | x => ∃ xs, seqOf st x = some xs ∧ newL b (cutD xs lo hi) st Q
def rSlZ (K : PySem.W.Frag) : V → Option Int → Option Int → Hp → VK → Prop := fun x lo hi H Q => rSlS x lo hi H Q ∨ rSlA K x lo hi H Q ∨ rSlL K x lo hi H Q
theorem sl_Z : SlR X (rSlZ X.K) := sl_str.or (sl_tupA.or sl_list)
theorem cut_rp {αs : Al} {L : Addr → Prop} {H : Hp} {vs : List V} {ds : List D} {lo hi : Option Int} (r : RpAll K αs L H vs ds) : RpAll K αs L H (cutV vs lo hi) (cutD ds lo hi) := by
  unfold cutV cutD
  rw [r.length]
  exact (r.drop _).take _
theorem cutD_all {xs : List D} {lo hi : Option Int} (h : HT.sIx xs.length 0 lo = 0 ∧ HT.sIx xs.length xs.length hi = xs.length) : cutD xs lo hi = xs := by
  unfold cutD
  rw [h.1, h.2]
  simp
theorem rs_sl (b : Bool) {αs : Al} {st : Store} {H : Hp} {x : V} {dx : D} {lo hi : Option Int} {Q : VK} {QA : D → Store → Prop} (s : SRel K αs st H) (rx : Rp K αs (Lv αs st) H x dx) (h : slA b dx lo hi st QA) (z : ZOk K αs st H QA Q) : rSlZ K x lo hi H Q := by
  have seqs : ∀ xs, (∀ ys, dx ≠ .tup ys) → seqOf st dx = some xs → newL b (cutD xs lo hi) st QA → rSlZ K x lo hi H Q := fun xs nt h1 h2 => by
    have key : ∃ a vs, x = .ref a ∧ SqL K H a vs ∧ RpAll K αs (Lv αs st) H vs xs := by
      cases dx with
      | tup ys => exact absurd rfl (nt ys)
      | scr ns =>
        simp only [seqOf, Option.some.injEq] at h1
        subst h1
        cases rx with
        | scr e => exact ⟨_, _, rfl, e.imp (fun z => z.1) fun z => z, rpInts ns⟩
      | _ =>
        obtain ⟨a, vs, e1, e2, e3⟩ := lstOf_ok s rx (show lstOf st _ = some xs from h1)
        exact ⟨a, vs, e1, .inl (.inl e2), e3⟩
    obtain ⟨a, vs, e1, e2, r⟩ := key
    exact .inr (.inr ⟨a, vs, e1, e2, fun p hp => newL_ok s hp (cut_rp r) h2 z⟩)
  cases dx <;> simp only [slA] at h
  case str => cases rx; exact .inl ⟨_, rfl, h.1, z.here s (.str _) h.2⟩
  case tup xs =>
    cases rx with
    | tup e r =>
      refine .inr (.inl ⟨_, _, rfl, e, fun q => ?_, fun q p hp => newT_ok s hp (cut_rp r) h z⟩)
      rw [r.length] at q
      rw [cutD_all q] at h
      exact z.here s (.tup e r) h
  all_goals (obtain ⟨xs, h1, h2⟩ := h; exact seqs xs (fun _ z => nomatch z) h1 h2)
variable {W : WX} {e : Expr} {lo hi : Option Expr} {t : AE} {tl th : AO} {p2 pos : Pos}
theorem PO.imp {X : Cx} {e : Option Expr} {t t' : TO} (h : PO X e t) (i : ∀ σ H Q, t' σ H Q → t σ H Q) : PO X e t' := ⟨fun pins s σ H Q I q => h.run pins s σ H Q I (i σ H Q q)⟩
theorem jo_none : PO X none (concO X.K W aNoPart) := PO.imp po_none fun σ H Q ⟨αs, S, QA, XA, R, h, q, x⟩ => q αs none H S R R.ext0 h
theorem jo_some (h : JE X W e t) : PO X (some e) (concO X.K W (aPart t)) := PO.imp (po_some h) fun σ H Q ⟨αs, S, QA, XA, R, h, q, x⟩ => by
  refine ⟨αs, S, _, XA, R, h, fun αs1 v H1 d S1 R1 e1 rv ⟨i, hd, h1⟩ => ?_, x⟩
  subst hd
  cases rv
  exact ⟨i, rfl, q αs1 _ H1 S1 R1 e1 h1⟩
theorem j_slice (b : Bool) (he : JE X W e t) (hl : PO X lo (concO X.K W tl)) (hu : PO X hi (concO X.K W th)) : JE X W (.Subscript e (.Slice lo hi none p2) pos) (aSl (slA b) t tl th) :=
  PE.imp (pe_slice sl_Z he hl hu) fun σ H Q ⟨αs, S, QA, XA, R, h, q, x⟩ => by
    refine ⟨αs, S, _, XA, R, h, fun αs1 v H1 d S1 R1 e1 rv h1 => ?_, x⟩
    refine ⟨αs1, S1, _, XA, R1, h1, fun αs2 o2 H2 S2 R2 e2 h2 => ?_, x.on R R1 e1⟩
    refine ⟨αs2, S2, _, XA, R2, h2, fun αs3 o3 H3 S3 R3 e3 h3 => ?_, x.on R R2 (e1.trans R.s e2 R1.s)⟩
    have e23 := e2.trans R1.s e3 R2.s
    exact rs_sl b R3.s (rv.mono (e23.carry R1.s)) h3 (ZOk.of q R R3 (e1.trans R.s e23 R1.s))
end
end Ab
set_option Elab.async false
set_option linter.all false
set_option maxRecDepth 100000
set_option autoImplicit false
/-! Statements, loops, comprehensions, methods of lists. -/
namespace Ab
open PySem PySem.Spec PyProof.Rows L2

/-! ### targets -/
abbrev AG := D → AS → (AS → Prop) → AX → Prop
abbrev AGs := List D → AS → (AS → Prop) → AX → Prop
def concG (K : PySem.W.Frag) (W : WX) (g : AG) : TG := fun v σ H Q => ∃ αs S d QA XA, Rel K αs σ H S ∧ Rp K αs (Lv αs S.st) H v d ∧ g d S QA XA ∧ NOk K αs S.st H QA Q ∧ XOkS K W αs S.st H XA
def concGs (K : PySem.W.Frag) (W : WX) (g : AGs) : TGs := fun vs σ H Q => ∃ αs S ds QA XA, Rel K αs σ H S ∧ RpAll K αs (Lv αs S.st) H vs ds ∧ g ds S QA XA ∧ NOk K αs S.st H QA Q ∧ XOkS K W αs S.st H XA
abbrev JG (X : Cx) (W : WX) (e : Expr) (g : AG) : Prop := PG X e (concG X.K W g)
abbrev JGs (X : Cx) (W : WX) (es : List Expr) (g : AGs) : Prop := PGs X es (concGs X.K W g)
theorem PG.imp {X : Cx} {e : Expr} {t t' : TG} (h : PG X e t) (i : ∀ v σ H Q, t' v σ H Q → t v σ H Q) : PG X e t' := ⟨fun pins s σ H v u Q I r q => h.run pins s σ H v u Q I r (i v σ H Q q)⟩
theorem PGs.imp {X : Cx} {e : List Expr} {t t' : TGs} (h : PGs X e t) (i : ∀ v σ H Q, t' v σ H Q → t v σ H Q) : PGs X e t' := ⟨fun pins s σ H v u Q I r q => h.run pins s σ H v u Q I r (i v σ H Q q)⟩
def gName (i : Nat) : AG := fun d S Q _ => Q ⟨S.σ.set i (some d), S.st⟩
def gNil : AGs := fun ds S Q _ => ds = [] ∧ Q S
def gCons (g : AG) (gs : AGs) : AGs := fun ds S Q X => ∃ d r, ds = d :: r ∧ g d S (fun S1 => gs r S1 Q X) X
def gTup (n : Nat) (gs : AGs) : AG := fun d S Q X => ∃ xs, d = .tup xs ∧ xs.length = n ∧ gs xs S Q X
section
variable {X : Cx} {W : WX} {e : Expr} {es : List Expr} {g : AG} {gs : AGs} {pos : Pos} {te : AE}
variable {K : PySem.W.Frag} {αs αs1 : Al} {σ σ1 : L2.St} {H H1 : Hp} {S S1 : AS}
theorem NOk.on {QA : AS → Prop} {Q : L2.St → Hp → Prop} (x : NOk K αs S.st H QA Q) (r : Rel K αs σ H S) (r1 : Rel K αs1 σ1 H1 S1) (e : Ext αs S.st H αs1 S1.st H1) : NOk K αs1 S1.st H1 QA Q :=
  fun αs' σ' H' S' r' e' h => x αs' σ' H' S' r' (e.trans r.s e' r1.s) h
theorem XOkS.on {XA : AX} (x : XOkS K W αs S.st H XA) (r : Rel K αs σ H S) (r1 : Rel K αs1 σ1 H1 S1) (e : Ext αs S.st H αs1 S1.st H1) : XOkS K W αs1 S1.st H1 XA :=
  fun αs' σ' H' S' cls dd gs r' e' q h => x αs' σ' H' S' cls dd gs r' (e.trans r.s e' r1.s) q h
theorem XOkS.x {st : Store} {XA : AX} (x : XOkS K W αs st H XA) (σ : L2.St) : XOk K W αs st H σ XA := fun αs' H' S' cls dd gs r' e' q h => x αs' σ H' S' cls dd gs r' e' q h
theorem jg_name {i : Nat} {x : Str} (hN : X.N.Nodup) (hi : X.N[i]? = some x) (hx : Loc X.env.scope x) (hf : X.fn x = true ∨ X.env.scope.names.lookup x = some .local := by first | exact .inl rfl | exact .inr rfl | assumption) : JG X W (.Name x pos) (gName i) :=
  PG.imp (pg_name hN hi hx hf) fun v σ H Q ⟨αs, S, d, QA, XA, R, r, h, q, x⟩ => q αs _ H _ (R.set r) R.ext0 h
theorem jgs_nil : JGs X W [] gNil := PGs.imp pgs_nil fun vs σ H Q ⟨αs, S, ds, QA, XA, R, r, ⟨h0, h⟩, q, x⟩ => by
  subst h0
  cases r
  exact ⟨rfl, q αs σ H S R R.ext0 h⟩
theorem jgs_cons (h1 : JG X W e g) (h2 : JGs X W es gs) (hs : (assignEach (e :: es) X.env).map (·.2) = assign e X.env :: (assignEach es X.env).map (·.2) := by rfl) : JGs X W (e :: es) (gCons g gs) :=
  PGs.imp (pgs_cons h1 h2 hs) fun vs σ H Q ⟨αs, S, ds, QA, XA, R, r, ⟨d, dr, h0, h⟩, q, x⟩ => by
    subst h0
    cases r with
    | @cons v vr _ _ r1 rr =>
      refine ⟨v, vr, rfl, αs, S, d, _, XA, R, r1, h, fun αs1 σ1 H1 S1 R1 e1 h1 => ?_, x⟩
      exact ⟨αs1, S1, dr, QA, XA, R1, rr.mono (e1.carry R.s), h1, q.on R R1 e1, x.on R R1 e1⟩
theorem jg_tup {k n : Nat} (hc : X.calm = true) (h : JGs X W es gs) (hn : (assignEach es X.env).length = n := by rfl) (hst : (assignEach es X.env).findIdx? (·.1) = none := by rfl) : JG X W (.Tuple es k pos) (gTup n gs) :=
  PG.imp (pg_tup hc h hn hst) fun v σ H Q ⟨αs, S, d, QA, XA, R, r, ⟨xs, h0, hl, h⟩, q, x⟩ => by
    subst h0
    cases r with
    | @tup a vs _ e1 r1 => exact ⟨a, vs, rfl, e1, by rw [r1.length]; exact hl, αs, S, xs, QA, XA, R, r1, h, q, x⟩

/-- o[i] = .., o a list that is being changed -/
abbrev A3 := D → D → D → Store → (Store → Prop) → Prop
def gSub (r : A3) (to ti : AE) : AG := fun d S Q X => to S (fun o S1 => ti S1 (fun i S2 => r o i d S2.st fun st => Q ⟨S2.σ, st⟩) X) X
def setA : A3 := fun o i d st Q => match o, i with
  | .ref n, .int k => ∃ xs j, st[n]? = some (.lst xs) ∧ ixN xs.length k = some j ∧ Q (st.set n (.lst (xs.set j d)))
  | _, _ => False
def RS3 (K : PySem.W.Frag) (r : TSet) (rA : A3) : Prop := ∀ αs st H o i v dob di dv Q QA, SRel K αs st H → Rp K αs (Lv αs st) H o dob → Rp K αs (Lv αs st) H i di → Rp K αs (Lv αs st) H v dv → rA dob di dv st QA →
  (∀ αs' H' st', SRel K αs' st' H' → Ext αs st H αs' st' H' → QA st' → Q H') → r o i v H Q
theorem rs_set : RS3 K rSetL setA := fun αs st H o i v dob di dv Q QA s ro ri rv h z => by
  cases dob <;> cases di <;> simp only [setA] at h
  obtain ⟨xs, j, h1, h2, h3⟩ := h
  obtain ⟨a, vs, e1, e2, l, e3, r⟩ := live_ok s ro h1
  cases ri
  refine ⟨a, vs, _, j, e1, rfl, e3, by rw [r.length]; exact h2, ?_⟩
  have x := Ext.write (u := .lst (xs.set j dv)) (o := .lst (vs.set j v)) s e2 l
  exact z αs _ _ (s.write (u := .lst (xs.set j dv)) e2 l ⟨_, upd_same, (r.set j rv).mono (x.carry s)⟩) x h3
theorem jg_sub {o i : Expr} {to ti : AE} {r : TSet} {rA : A3} (ho : JE X W o to) (hi : JE X W i ti) (hs : PSet X r) (hr : RS3 X.K r rA)
    (ha : ∀ v, assign (.Subscript o i pos) X.env v = (do
      let ov ← holding [v] (eval o X.env)
      let iv ← holding [v, ov] (eval i X.env)
      standAt pos
      holding [v, ov, iv] (setItem ov iv v)
      release [v, ov, iv] []) := by intro _; rfl) : JG X W (.Subscript o i pos) (gSub rA to ti) :=
  PG.imp (pg_sub ho hi hs ha) fun v σ H Q ⟨αs, S, d, QA, XA, R, r, h, q, x⟩ => by
    refine ⟨αs, S, _, XA, R, h, fun αs1 ov H1 dob S1 R1 e1 ro h1 => ?_, x.x σ⟩
    refine ⟨αs1, S1, _, XA, R1, h1, fun αs2 iv H2 di S2 R2 e2 ri h2 => ?_, (x.on R R1 e1).x σ⟩
    have e12 := e1.trans R.s e2 R1.s
    exact hr αs2 S2.st H2 ov iv v dob di d _ _ R2.s (ro.mono (e2.carry R1.s)) ri (r.mono (e12.carry R.s)) h2 fun αs3 H3 st3 s3 e3 h3 =>
      q αs3 σ H3 ⟨S2.σ, st3⟩ (R2.mono e3 s3) (e12.trans R.s e3 R2.s) h3
end

/-! ### statements -/
def aAsg (te : AE) (g : AG) : AT := fun D S => te S (fun d S1 => g d S1 D.nx D.xe) D.xe
def aPar (i j : Nat) (ta : AA) : AT := fun D S => ta S (fun ds S1 => ∃ x y, ds = [x, y] ∧ D.nx ⟨(S1.σ.set i (some x)).set j (some y), S1.st⟩) D.xe
def aPar3 (i j k : Nat) (ta : AA) : AT := fun D S => ta S (fun ds S1 => ∃ x y z, ds = [x, y, z] ∧ D.nx ⟨((S1.σ.set i (some x)).set j (some y)).set k (some z), S1.st⟩) D.xe
def aExpr (te : AE) : AT := fun D S => te S (fun _ S1 => D.nx S1) D.xe
def aRet (te : AE) : AT := fun D S => te S D.rt D.xe
def aRetN : AT := fun D S => D.rt .non S
def aIfS (c : AB) (t u : AT) : AT := fun D S => c S (fun b S1 => if b = true then t D S1 else u D S1) D.xe
def aNext : AT := fun D S => D.nx S
def aSeq (t u : AT) : AT := fun D S => t { D with nx := u D } S
def aBreak : AT := fun D S => D.bk S
def aCont : AT := fun D S => D.ct S
def aAug (i : Nat) (r : A2) (te : AE) : AT := fun D S => ∃ x, S.σ[i]? = some (some x) ∧ te S (fun y S1 => r x y S1.st fun z st => D.nx ⟨S1.σ.set i (some z), st⟩) D.xe
/-- while: the number of turns is bounded -/
def whA (c : AB) (tb : AT) (D : AK) : Nat → AS → Prop
  | 0, _ => False
  | n + 1, S => c S (fun b S1 => if b = true then tb { D with nx := whA c tb D n, ct := whA c tb D n, bk := D.nx } S1 else D.nx S1) D.xe
def aWhile (c : AB) (tb : AT) : AT := fun D S => ∃ n, whA c tb D n S
section
variable {X : Cx} {W : WX} {e c : Expr} {es : List Expr} {g : AG} {pos : Pos} {te : AE} {tc : AB} {t u : AT} {ta : AA} {st : Stmt} {rest a b : List Stmt}
theorem conc_asg : ∀ D σ H, concS X.K W (aAsg te g) D σ H → tAsg (conc X.K W te) (concG X.K W g) D σ H := fun D σ H ⟨αs, S, DA, R, h, q⟩ =>
  ⟨αs, S, _, _, R, h, fun αs1 v H1 d S1 R1 e1 rv h1 => ⟨αs1, S1, d, _, _, R1, rv, h1, (q.on R R1 e1).nx, (q.on R R1 e1).xe⟩, q.x σ⟩
theorem js_asg {tg : Expr} (he : JE X W e te) (hg : JG X W tg g) (hs : swapsWithSole [tg] e pos.line X.env = pure false := by rfl) (hw : swappedStores [tg] e X.env = pure none := by rfl)
    (h1 : (assignEach [tg] X.env).map (·.2) = [assign tg X.env] := by rfl) : JS X W (.Assign [tg] e pos) (aAsg te g) := PS.imp (ps_asg he hg hs hw h1) conc_asg
theorem conc_set {i : Nat} : ∀ D σ H, concS X.K W (aAsg te (gName i)) D σ H → tAsg (conc X.K W te) (L2.gName i) D σ H := fun D σ H ⟨αs, S, DA, R, h, q⟩ =>
  ⟨αs, S, _, _, R, h, fun αs1 v H1 d S1 R1 e1 rv h1 => (q.on R R1 e1).nx αs1 _ H1 _ (R1.set rv) R1.ext0 h1, q.x σ⟩
theorem js_set {i : Nat} {x : Str} {pos' : Pos} (hN : X.N.Nodup) (hi : X.N[i]? = some x) (hx : Loc X.env.scope x) (he : JE X W e te) (hs : swapsWith e (some (.Name x pos')) pos.line X.env = pure false := by rfl) (hf : X.fn x = true ∨ X.env.scope.names.lookup x = some .local := by first | exact .inl rfl | exact .inr rfl | assumption) :
    JS X W (.Assign [.Name x pos'] e pos) (aAsg te (gName i)) := PS.imp (ps_set hN hi hx he hs hf) conc_set
theorem js_par {i j : Nat} {x y : Str} {a b : Expr} {px py pt pt2 : Pos} {kt k2 : Nat} (hc : X.calm = true) (hN : X.N.Nodup) (hi : X.N[i]? = some x) (hj : X.N[j]? = some y) (hij : i ≠ j)
    (hx : X.env.scope.names.lookup x = some .local) (hy : X.env.scope.names.lookup y = some .local) (ha : JA X W [a, b] ta)
    (hw : swappedStores [.Tuple [.Name x px, .Name y py] kt pt] (.Tuple [a, b] k2 pt2) X.env = pure (some [x, y]) := by rfl)
    (hs : swapsWithSole [.Tuple [.Name x px, .Name y py] kt pt] (.Tuple [a, b] k2 pt2) pos.line X.env = pure false := by rfl) :
    JS X W (.Assign [.Tuple [.Name x px, .Name y py] kt pt] (.Tuple [a, b] k2 pt2) pos) (aPar i j ta) :=
  PS.imp (ps_par hc hN hi hj hij hx hy ha hw hs) fun D σ H ⟨αs, S, DA, R, h, q⟩ =>
    ⟨αs, S, _, _, R, h, fun αs1 vs H1 ds S1 R1 e1 rv ⟨d1, d2, h0, h1⟩ => by
      subst h0
      cases rv with
      | cons r1 rr =>
        cases rr with
        | cons r2 r0 =>
          cases r0
          exact ⟨_, _, rfl, (q.on R R1 e1).nx αs1 _ H1 _ ((R1.set r1).set r2) R1.ext0 h1⟩, q.x σ⟩
theorem js_expr (he : JE X W e te) (hs : swapsWith e none pos.line X.env = pure false := by rfl) : JS X W (.Expr e pos) (aExpr te) :=
  PS.imp (ps_expr he hs) fun D σ H ⟨αs, S, DA, R, h, q⟩ => ⟨αs, S, _, _, R, h, fun αs1 v H1 d S1 R1 e1 rv h1 => (q.on R R1 e1).nx αs1 σ H1 S1 R1 R1.ext0 h1, q.x σ⟩
theorem js_ret (he : JE X W e te) : JS X W (.Return (some e) pos) (aRet te) :=
  PS.imp (ps_ret he) fun D σ H ⟨αs, S, DA, R, h, q⟩ => ⟨αs, S, _, _, R, h, fun αs1 v H1 d S1 R1 e1 rv h1 => (q.on R R1 e1).rt αs1 σ v H1 d S1 R1 R1.ext0 rv h1, q.x σ⟩
theorem js_retN : JS X W (.Return none pos) aRetN :=
  PS.imp ps_retN fun D σ H ⟨αs, S, DA, R, h, q⟩ => q.rt αs σ .non H .non S R R.ext0 .non h
theorem js_if (hc : JB X W c tc) (ha : JSs X W a t) (hb : JSs X W b u) : JS X W (.If c a b pos) (aIfS tc t u) :=
  PS.imp (ps_if hc ha hb) fun D σ H ⟨αs, S, DA, R, h, q⟩ => by
    refine ⟨αs, S, _, _, R, h, fun αs1 v H1 S1 R1 e1 h1 => ?_, q.x σ⟩
    cases v with
    | true => exact ⟨αs1, S1, DA, R1, h1, q.on R R1 e1⟩
    | false => exact ⟨αs1, S1, DA, R1, h1, q.on R R1 e1⟩
theorem js_break : JS X W (.Break pos) aBreak := PS.imp ps_break fun D σ H ⟨αs, S, DA, R, h, q⟩ => q.bk αs σ H S R R.ext0 h
theorem js_cont : JS X W (.Continue pos) aCont := PS.imp ps_continue fun D σ H ⟨αs, S, DA, R, h, q⟩ => q.ct αs σ H S R R.ext0 h
theorem js_pass : JS X W (.Pass pos) aNext := PS.imp ps_pass fun D σ H ⟨αs, S, DA, R, h, q⟩ => q.nx αs σ H S R R.ext0 h
theorem js_doc {x : Str} {j : Nat} {pos' : Pos} : JS X W (.Expr (.Constant (.str x) j pos) pos') aNext := PS.imp ps_doc fun D σ H ⟨αs, S, DA, R, h, q⟩ => q.nx αs σ H S R R.ext0 h
theorem jss_nil : JSs X W [] aNext := PSs.imp pss_nil fun D σ H ⟨αs, S, DA, R, h, q⟩ => q.nx αs σ H S R R.ext0 h
theorem jss_cons (h1 : JS X W st t) (h2 : JSs X W rest u) : JSs X W (st :: rest) (aSeq t u) :=
  PSs.imp (pss_cons h1 h2) fun D σ H ⟨αs, S, DA, R, h, q⟩ =>
    ⟨αs, S, { DA with nx := u DA }, R, h, ⟨fun αs1 σ1 H1 S1 R1 e1 h1 => ⟨αs1, S1, DA, R1, h1, q.on R R1 e1⟩, q.rt, q.bk, q.ct, q.xe⟩⟩
theorem jss_one (h1 : JS X W st t) : JSs X W [st] t := pss_one h1
theorem js_aug {i : Nat} {x : Str} {op : Operator} {r : R2} {rA : A2} {pos' : Pos} (hN : X.N.Nodup) (hi : X.N[i]? = some x) (hx : Loc X.env.scope x) (he : JE X W e te) (ho : OpR X (inplaceOp op) r) (hr : RS2 X.K r rA)
    (hf : X.fn x = true ∨ X.env.scope.names.lookup x = some .local := by first | exact .inl rfl | exact .inr rfl | assumption) : JS X W (.AugAssign (.Name x pos') op e pos) (aAug i rA te) :=
  PS.imp (ps_aug hN hi hx he (ti := r) (fun pins s σ H x y v u Q I r1 r2 h => ho pins s σ H x y v u Q I r1 r2 h) hf) fun D σ H ⟨αs, S, DA, R, ⟨d, e0, h⟩, q⟩ => by
    obtain ⟨v, e1, rv⟩ := R.val i d e0
    refine ⟨v, e1, αs, S, _, _, R, h, fun αs1 w H1 d2 S1 R1 x1 rw h1 => ?_, q.x σ⟩
    refine hr αs1 S1.st H1 v w d d2 _ _ R1.s (rv.mono (x1.carry R.s)) rw h1 fun αs3 u H3 f st3 s3 e3 ru h3 => ?_
    have R3 := R1.mono e3 s3
    exact (q.on R R3 (x1.trans R.s e3 R1.s)).nx αs3 _ H3 _ (R3.set ru) R3.ext0 h3
theorem js_while (hp : PassesOwn (model X.prog X.w) X.A X.env X.xe) (hc : JB X W c tc) (hb : JSs X W a t) : JS X W (.While c a [] pos) (aWhile tc t) :=
  PS.imp (ps_while hp hc hb) fun D σ H ⟨αs, S, DA, R, ⟨n, h⟩, q⟩ => by
    refine ⟨fun m σ' H' => ∃ αs' S', Rel X.K αs' σ' H' S' ∧ Ext αs S.st H αs' S'.st H' ∧ whA tc t DA m S', ⟨n, αs, S, R, R.ext0, h⟩, ?_⟩
    rintro m σ1 H1 ⟨αs1, S1, R1, e1, h1⟩
    cases m with
    | zero => exact h1.elim
    | succ m =>
      have q1 := q.on R R1 e1
      refine ⟨αs1, S1, _, _, R1, h1, fun αs2 b H2 S2 R2 e2 h2 => ?_, q1.x σ1⟩
      have e12 := e1.trans R.s e2 R1.s
      have q2 := q.on R R2 e12
      cases b with
      | false => exact q2.nx αs2 σ1 H2 S2 R2 R2.ext0 h2
      | true =>
        refine iteT ⟨fun σ' H' => ∃ αs' S', Rel X.K αs' σ' H' S' ∧ Ext αs S.st H αs' S'.st H' ∧ whA tc t DA m S', fun σ' H' hN => ⟨m, Nat.lt_succ_self m, hN⟩, αs2, S2, _, R2, h2, ?_⟩
        exact ⟨fun αs' σ' H' S' R' e' h' => ⟨αs', S', R', e12.trans R.s e' R2.s, h'⟩, q2.rt, q2.nx, fun αs' σ' H' S' R' e' h' => ⟨αs', S', R', e12.trans R.s e' R2.s, h'⟩, q2.xe⟩
end

/-! ### what is walked -/
/-- the items: of a thing that never changes, or made of the live list n, as long as it stays l -/
inductive Src where
  | fixed (its : List D)
  | live (n : Nat) (l its : List D)
def Src.its : Src → List D
  | .fixed l => l
  | .live _ _ l => l
def Src.stays : Src → Store → Prop
  | .fixed _, _ => True
  | .live n l _, st => st[n]? = some (.lst l)
abbrev AI := AS → (Src → AS → Prop) → AX → Prop
/-- some more lists kept out of sight -/
def Al.hides (αs : Al) (hs : List Addr) : Al := ⟨αs.l, hs ++ αs.h⟩
theorem Al.hides_nil (αs : Al) : αs.hides [] = αs := rfl
theorem Ext.carryH {K : PySem.W.Frag} {αs αs' : Al} {st st' : Store} {H H' : Hp} {hs : List Addr} (r : SRel K αs st H) (x : Ext αs st H αs' st' H') (hh : ∀ a ∈ hs, H a = none) : Carry αs (Lv αs st) H (αs'.hides hs) (Lv (αs'.hides hs) st') H' where
  pre := x.pre
  keep := x.keep
  live := fun a l => by
    rcases l with l | l
    · exact x.live r a (.inl l)
    · rcases List.mem_append.mp l with l | l
      · exact .inr (hh a l)
      · exact x.live r a (.inr l)
  mt := r.mt
structure ItOk (K : PySem.W.Frag) (αs : Al) (st : Store) (H : Hp) (J : It) (s : Src) : Prop where
  item : ∀ αs' hs σ' H' S', (∀ a ∈ hs, H a = none) → Rel K (αs'.hides hs) σ' H' S' → Ext αs st H αs' S'.st H' → s.stays S'.st → ∀ i d, s.its[i]? = some d → J.go i H' ∧
    ∀ x H'', J.yld i H' x H'' → SRel K (αs'.hides hs) S'.st H'' ∧ Ext (αs'.hides hs) S'.st H' (αs'.hides hs) S'.st H'' ∧ Rp K (αs'.hides hs) (Lv (αs'.hides hs) S'.st) H'' x d
  stop : ∀ αs' hs σ' H' S', (∀ a ∈ hs, H a = none) → Rel K (αs'.hides hs) σ' H' S' → Ext αs st H αs' S'.st H' → s.stays S'.st → J.stop s.its.length H'
def concI (K : PySem.W.Frag) (W : WX) (t : AI) : TI := fun σ H R => ∃ αs S QA XA, Rel K αs σ H S ∧ t S QA XA ∧
  (∀ αs' J H' S' s, Rel K αs' σ H' S' → Ext αs S.st H αs' S'.st H' → ItOk K αs' S'.st H' J s → QA s S' → R J H') ∧ XOk K W αs S.st H σ XA
abbrev JI (X : Cx) (W : WX) (tg iter : Expr) (t : AI) : Prop := PI X tg iter (concI X.K W t)
theorem PI.imp {X : Cx} {tg e : Expr} {t t' : TI} (h : PI X tg e t) (i : ∀ σ H R, t' σ H R → t σ H R) : PI X tg e t' := ⟨fun pins s σ H R I q => h.run pins s σ H R I (i σ H R q)⟩

def forL (g : AG) (tb : AT) (E : AK) : List D → AS → Prop
  | [], S => E.nx S
  | d :: r, S => g d S (fun S1 => tb { E with nx := forL g tb E r, ct := forL g tb E r, bk := E.nx } S1) E.xe
def forV (n : Nat) (l : List D) (g : AG) (tb : AT) (E : AK) : List D → AS → Prop
  | [], S => S.st[n]? = some (.lst l) ∧ E.nx S
  | d :: r, S => S.st[n]? = some (.lst l) ∧ g d S (fun S1 => tb { E with nx := forV n l g tb E r, ct := forV n l g tb E r, bk := E.nx } S1) E.xe
def aFor (t : AI) (g : AG) (tb : AT) : AT := fun D S => t S (fun s S1 => match s with
  | .fixed l => forL g tb D l S1
  | .live n l its => forV n l g tb D its S1) D.xe
/-- both, over the source -/
def forS (s : Src) (g : AG) (tb : AT) (E : AK) : List D → AS → Prop
  | [], S => s.stays S.st ∧ E.nx S
  | d :: r, S => s.stays S.st ∧ g d S (fun S1 => tb { E with nx := forS s g tb E r, ct := forS s g tb E r, bk := E.nx } S1) E.xe
theorem forS_fixed {l : List D} {g : AG} {tb : AT} {E : AK} : ∀ r : List D, forS (.fixed l) g tb E r = forL g tb E r
  | [] => by funext S; simp only [forS, forL, Src.stays, true_and]
  | d :: r => by funext S; simp only [forS, forL, Src.stays, true_and, forS_fixed r]
theorem forS_live {n : Nat} {l its : List D} {g : AG} {tb : AT} {E : AK} : ∀ r : List D, forS (.live n l its) g tb E r = forV n l g tb E r
  | [] => by funext S; simp only [forS, forV, Src.stays]
  | d :: r => by funext S; simp only [forS, forV, Src.stays, forS_live r]
section
variable {X : Cx} {W : WX} {tg iter : Expr} {body : List Stmt} {g : AG} {t : AI} {tb : AT} {pos : Pos}
theorem js_for (hp : PassesOwn (model X.prog X.w) X.A X.env X.xe) (hc : X.calm = true) (hi : JI X W tg iter t) (hg : JG X W tg g) (hb : JSs X W body tb) (hs : ∀ x, foldedSetIterable iter X.env x = pure x := by intro _; rfl) :
    JS X W (.For tg iter body [] pos) (aFor t g tb) :=
  PS.imp (ps_for hp hc hi hg hb hs) fun D σ H ⟨αs, S, DA, R, h, q⟩ => by
    refine ⟨αs, S, _, _, R, h, fun αs1 J H1 S1 s R1 e1 ok h1 => ?_, q.x σ⟩
    have h1 : forS s g tb DA s.its S1 := by
      cases s with
      | fixed l => rw [forS_fixed]; exact h1
      | live n l its => rw [forS_live]; exact h1
    have q1 := q.on R R1 e1
    refine ⟨fun i m σ' H' => m + i = s.its.length ∧ ∃ αs' S', Rel X.K αs' σ' H' S' ∧ Ext αs1 S1.st H1 αs' S'.st H' ∧ forS s g tb DA (s.its.drop i) S', ⟨s.its.length, rfl, αs1, S1, R1, R1.ext0, h1⟩, ?_⟩
    rintro i m σ2 H2 ⟨hm, αs2, S2, R2, e2, h2⟩
    have q2 := q1.on R1 R2 e2
    by_cases hi : i < s.its.length
    · obtain ⟨d, hd⟩ : ∃ d, s.its[i]? = some d := ⟨_, List.getElem?_eq_getElem hi⟩
      have hdr : s.its.drop i = d :: s.its.drop (i + 1) := by
        rw [List.drop_eq_getElem_cons hi]
        rw [List.getElem?_eq_getElem hi] at hd
        cases hd
        rfl
      rw [hdr] at h2
      obtain ⟨hst, h2⟩ := h2
      obtain ⟨hgo, hy⟩ := ok.item αs2 [] σ2 H2 S2 (fun _ z => nomatch z) R2 e2 hst i d hd
      refine .inr ⟨hgo, fun σ' H' => (m - 1) + (i + 1) = s.its.length ∧ ∃ αs' S', Rel X.K αs' σ' H' S' ∧ Ext αs1 S1.st H1 αs' S'.st H' ∧ forS s g tb DA (s.its.drop (i + 1)) S', fun σ' H' hN => ⟨m - 1, by omega, hN⟩, fun x H3 y => ?_⟩
      obtain ⟨s3, e3, r3⟩ := hy x H3 y
      have e3 : Ext αs2 S2.st H2 αs2 S2.st H3 := e3
      have r3 : Rp X.K αs2 (Lv αs2 S2.st) H3 x d := r3
      have R3 : Rel X.K αs2 σ2 H3 S2 := R2.mono e3 s3
      have q3 := q2.on R2 R3 e3
      refine ⟨αs2, S2, d, _, _, R3, r3, h2, fun αs4 σ4 H4 S4 R4 e4 h4 => ?_, q3.xe⟩
      have q4 := q3.on R3 R4 e4
      have e24 := (e2.trans R1.s e3 R2.s).trans R1.s e4 R3.s
      refine ⟨αs4, S4, _, R4, h4, ⟨fun αs' σ' H' S' R' e' h' => ⟨by omega, αs', S', R', e24.trans R1.s e' R4.s, h'⟩, q4.rt, q4.nx, fun αs' σ' H' S' R' e' h' => ⟨by omega, αs', S', R', e24.trans R1.s e' R4.s, h'⟩, q4.xe⟩⟩
    · have hdr : s.its.drop i = [] := List.drop_eq_nil_of_le (by omega)
      rw [hdr] at h2
      obtain ⟨hst, h2⟩ := h2
      have e : i = s.its.length := by omega
      subst e
      exact .inl ⟨ok.stop αs2 [] σ2 H2 S2 (fun _ z => nomatch z) R2 e2 hst, q2.nx αs2 σ2 H2 S2 R2 R2.ext0 h2⟩
end

/-! ### sources -/
section
variable {X : Cx} {W : WX} {tg e : Expr} {es : List Expr} {te : AE} {ta : AA} {p pos : Pos}
/-- the source that d is -/
def srcOf (st : Store) : D → Option Src
  | .tup xs => some (.fixed xs)
  | .lst xs => some (.fixed xs)
  | .scr ns => some (.fixed (ns.map D.int))
  | .ref n => match st[n]? with
    | some (.lst xs) => some (.live n xs xs)
    | _ => none
  | _ => none
def aSeqI (te : AE) : AI := fun S Q X => te S (fun d S1 => ∃ s, srcOf S1.st d = some s ∧ Q s S1) X
def iSeq (K : PySem.W.Frag) (tl : TE) : TI := fun σ H R => tl σ H fun x H1 => ∃ a, x = .ref a ∧ (((∃ xs, SqL K H1 a xs) ∧ R (Itl K a) H1) ∨ ((∃ xs, SqT K H1 a xs) ∧ R (Itt K a) H1))
theorem pi_seq {l : Expr} {tl : TE} (hl : PE X l tl) : PI X tg l (iSeq X.K tl) := by
  refine ⟨fun pins s σ H R J hh => ?_⟩
  have two : ∀ (v : Value) (s1 : Shared) (a : Addr) (H1 : Hp), Inv X pins σ H1 s1 → v = .ref a → (((∃ xs, SqL X.K H1 a xs) ∧ R (Itl X.K a) H1) ∨ ((∃ xs, SqT X.K H1 a xs) ∧ R (Itt X.K a) H1)) →
      wpAny (model X.prog X.w) X.A (pyIter v) (PIE X pins σ tg R) X.xe s1 := fun v s1 a H1 J1 ev q => by
    subst ev
    have fresh := J1.fpOk (Nat.le_refl _) (J1.hok.fresh (Nat.le_refl s1.heap.objs.size))
    rcases q with ⟨⟨xs, hq⟩, q⟩ | ⟨⟨xs, hq⟩, q⟩
    · obtain ⟨its, _, pl, _⟩ := J1.list hq
      refine wpAny_pyIter_list pl.isList ⟨s1.heap.objs.size, [s1.heap.objs.size], _, Itl X.K a, H1, rfl, J1.kept (t' := s1.toks) fun b o z => Heap.get?_push_of_some _ z, turn_list a _, ⟨_, Heap.get?_push_size _ rfl, rfl, rfl⟩, fun b hb => ?_, q⟩
      rw [show b = s1.heap.objs.size by simpa using hb]
      exact fresh
    · obtain ⟨its, _, pl, _⟩ := J1.tuple hq
      refine wpAny_pyIter_tuple (show s1.heap.IsTuple a its.toArray from pl) ⟨s1.heap.objs.size, [s1.heap.objs.size], _, Itt X.K a, H1, rfl, J1.kept (t' := s1.toks) fun b o z => Heap.get?_push_of_some _ z, turn_tuple a _, ⟨_, Heap.get?_push_size _ rfl, rfl, rfl⟩, fun b hb => ?_, q⟩
      rw [show b = s1.heap.objs.size by simpa using hb]
      exact fresh
  exact thn (hl.run pins s σ H _ J hh) fun v s1 ⟨x, H1, J1, rx, a, ex, q⟩ => by
    subst ex
    exact two v s1 a H1 J1 rx q
theorem itl_ok {K : PySem.W.Frag} {αs : Al} {st : Store} {H : Hp} {a : Addr} {s : Src} (sr : SRel K αs st H)
    (hx : ∀ αs' hs σ' H' S', (∀ a ∈ hs, H a = none) → Rel K (αs'.hides hs) σ' H' S' → Ext αs st H αs' S'.st H' → s.stays S'.st → ∃ vs, SqL K H' a vs ∧ RpAll K (αs'.hides hs) (Lv (αs'.hides hs) S'.st) H' vs s.its) : ItOk K αs st H (Itl K a) s where
  item := fun αs' hs σ' H' S' hh R' e' hst i d hd => by
    obtain ⟨vs, h1, h2⟩ := hx αs' hs σ' H' S' hh R' e' hst
    obtain ⟨v, h3, h4⟩ := h2.get hd
    refine ⟨⟨vs, v, h1, h3⟩, fun x H'' y => ?_⟩
    obtain ⟨eH, y⟩ := y
    subst eH
    have e := (y vs h1).symm.trans h3
    cases e
    exact ⟨R'.s, R'.ext0, h4⟩
  stop := fun αs' hs σ' H' S' hh R' e' hst => by
    obtain ⟨vs, h1, h2⟩ := hx αs' hs σ' H' S' hh R' e' hst
    exact ⟨vs, h1, by rw [h2.length]; exact Nat.le_refl _⟩
theorem itt_ok {K : PySem.W.Frag} {αs : Al} {st : Store} {H : Hp} {a : Addr} {s : Src} (sr : SRel K αs st H)
    (hx : ∀ αs' hs σ' H' S', (∀ a ∈ hs, H a = none) → Rel K (αs'.hides hs) σ' H' S' → Ext αs st H αs' S'.st H' → s.stays S'.st → ∃ vs, SqT K H' a vs ∧ RpAll K (αs'.hides hs) (Lv (αs'.hides hs) S'.st) H' vs s.its) : ItOk K αs st H (Itt K a) s where
  item := fun αs' hs σ' H' S' hh R' e' hst i d hd => by
    obtain ⟨vs, h1, h2⟩ := hx αs' hs σ' H' S' hh R' e' hst
    obtain ⟨v, h3, h4⟩ := h2.get hd
    refine ⟨⟨vs, v, h1, h3⟩, fun x H'' y => ?_⟩
    obtain ⟨eH, y⟩ := y
    subst eH
    have e := (y vs h1).symm.trans h3
    cases e
    exact ⟨R'.s, R'.ext0, h4⟩
  stop := fun αs' hs σ' H' S' hh R' e' hst => by
    obtain ⟨vs, h1, h2⟩ := hx αs' hs σ' H' S' hh R' e' hst
    exact ⟨vs, h1, by rw [h2.length]; exact Nat.le_refl _⟩
/-- a list (read at any later time), or a tuple -/
theorem src_ok {K : PySem.W.Frag} {αs : Al} {st : Store} {H : Hp} {v : V} {d : D} {s : Src} (sr : SRel K αs st H) (r : Rp K αs (Lv αs st) H v d) (h : srcOf st d = some s) :
    ∃ a, v = .ref a ∧ (((∃ xs, SqL K H a xs) ∧ ItOk K αs st H (Itl K a) s) ∨ ((∃ xs, SqT K H a xs) ∧ ItOk K αs st H (Itt K a) s)) := by
  cases r with
  | @tup a vs ds e1 r1 =>
    simp only [srcOf, Option.some.injEq] at h
    subst h
    exact ⟨a, rfl, .inr ⟨⟨vs, e1⟩, itt_ok sr fun αs' hs σ' H' S' hh R' e' _ => ⟨vs, (e'.carryH sr hh).sqT e1, r1.mono (e'.carryH sr hh)⟩⟩⟩
  | @lst a vs ds e1 n1 r1 =>
    simp only [srcOf, Option.some.injEq] at h
    subst h
    exact ⟨a, rfl, .inl ⟨⟨vs, .inl (.inl e1)⟩, itl_ok sr fun αs' hs σ' H' S' hh R' e' _ => ⟨vs, .inl (.inl (e'.keep _ _ e1 n1)), r1.mono (e'.carryH sr hh)⟩⟩⟩
  | @scr a ns e1 =>
    simp only [srcOf, Option.some.injEq] at h
    subst h
    refine ⟨a, rfl, .inl ⟨⟨_, e1.imp (fun z => z.1) fun z => z⟩, itl_ok sr fun αs' hs σ' H' S' hh R' e' _ => ⟨ns.map V.int, ?_, rpInts ns⟩⟩⟩
    exact e1.imp (fun z => (e'.carry sr).rd z.1 z.2) fun z => z
  | @ref a n e1 =>
    simp only [srcOf] at h
    split at h
    · rename_i xs hx
      cases h
      obtain ⟨vs, e2, r2⟩ := sr.obj n _ a hx e1
      refine ⟨a, rfl, .inl ⟨⟨vs, .inl (.inl e2)⟩, itl_ok sr fun αs' hs σ' H' S' hh R' e' hst => ?_⟩⟩
      obtain ⟨ws, e3, r3⟩ := R'.s.obj n _ a hst (e'.pre _ _ e1)
      exact ⟨ws, .inl (.inl e3), r3⟩
    · cases h
  | _ => simp only [srcOf] at h; cases h
theorem ji_seq (he : JE X W e te) : JI X W tg e (aSeqI te) := PI.imp (pi_seq he) fun σ H R ⟨αs, S, QA, XA, Re, h, q, x⟩ => by
  refine ⟨αs, S, _, _, Re, h, fun αs1 v H1 d S1 R1 e1 rv ⟨s, hs, h1⟩ => ?_, x⟩
  obtain ⟨a, ev, hh⟩ := src_ok R1.s rv hs
  exact ⟨a, ev, hh.imp (fun z => ⟨z.1, q αs1 _ H1 S1 s R1 e1 z.2 h1⟩) fun z => ⟨z.1, q αs1 _ H1 S1 s R1 e1 z.2 h1⟩⟩
/-- range -/
def rgD (lo : Int) (n : Nat) : List D := (List.range n).map fun (i : Nat) => D.int (lo + i)
theorem rgD_get {lo : Int} {n i : Nat} {d : D} (h : (rgD lo n)[i]? = some d) : i < n ∧ d = .int (lo + i) := by
  unfold rgD at h
  obtain ⟨hl, e⟩ := List.getElem?_eq_some_iff.mp h
  rw [List.length_map, List.length_range] at hl
  rw [List.getElem_map, List.getElem_range] at e
  exact ⟨hl, e.symm⟩
theorem itr_ok {K : PySem.W.Frag} {αs : Al} {st : Store} {H : Hp} (lo : Int) (n : Nat) : ItOk K αs st H (Itr lo n) (.fixed (rgD lo n)) where
  item := fun αs' hs σ' H' S' hh R' e' hst i d hd => by
    obtain ⟨h1, h2⟩ := rgD_get hd
    subst h2
    refine ⟨h1, fun x H'' y => ?_⟩
    obtain ⟨eH, ex⟩ := y
    subst eH ex
    exact ⟨R'.s, R'.ext0, .int _⟩
  stop := fun αs' hs σ' H' S' hh R' e' hst => by
    show n ≤ (rgD lo n).length
    unfold rgD
    rw [List.length_map, List.length_range]
    exact Nat.le_refl _
def aRange1 (ta : AA) : AI := fun S Q X => ta S (fun ds S1 => ∃ j, ds = [.int j] ∧ -(2 ^ 62) ≤ j ∧ j < 2 ^ 62 ∧ Q (.fixed (rgD 0 j.toNat)) S1) X
def aRange2 (ta : AA) : AI := fun S Q X => ta S (fun ds S1 => ∃ i j, ds = [.int i, .int j] ∧ (-(2 ^ 62) ≤ i ∧ i < 2 ^ 62 ∧ -(2 ^ 62) ≤ j ∧ j < 2 ^ 62) ∧ Q (.fixed (rgD i (j - i).toNat)) S1) X
theorem ji_range1 (hg : Gl X "range") (hm : X.mg "range" = none) (ha : JA X W [e] ta) (hs : starEach [e] X.env = [(false, eval e X.env)] := by rfl) : JI X W tg (.Call (.Name "range" p) [e] [] pos) (aRange1 ta) :=
  PI.imp (pi_range1 hg hm ha hs) fun σ H R ⟨αs, S, QA, XA, Re, h, q, x⟩ => by
    refine ⟨αs, S, _, _, Re, h, fun αs1 vs H1 ds S1 R1 e1 rv ⟨j, h0, b1, b2, h1⟩ => ?_, x⟩
    subst h0
    cases rv with
    | cons r1 r0 =>
      cases r0
      cases r1
      exact ⟨j, rfl, b1, b2, q αs1 _ H1 S1 _ R1 e1 (itr_ok 0 _) h1⟩
theorem ji_range2 {e2 : Expr} (hg : Gl X "range") (hm : X.mg "range" = none) (ha : JA X W [e, e2] ta) (hs : starEach [e, e2] X.env = [(false, eval e X.env), (false, eval e2 X.env)] := by rfl) (hs2 : starEach [e2] X.env = [(false, eval e2 X.env)] := by rfl) :
    JI X W tg (.Call (.Name "range" p) [e, e2] [] pos) (aRange2 ta) :=
  PI.imp (pi_range2 hg hm ha hs hs2) fun σ H R ⟨αs, S, QA, XA, Re, h, q, x⟩ => by
    refine ⟨αs, S, _, _, Re, h, fun αs1 vs H1 ds S1 R1 e1 rv ⟨i, j, h0, hb, h1⟩ => ?_, x⟩
    subst h0
    cases rv with
    | cons r1 rr =>
      cases rr with
      | cons r2 r0 =>
        cases r0
        cases r1
        cases r2
        exact ⟨i, j, rfl, hb, q αs1 _ H1 S1 _ R1 e1 (itr_ok i _) h1⟩
end
end Ab
set_option Elab.async false
set_option linter.all false
set_option maxRecDepth 100000
set_option autoImplicit false
/-! Comprehensions. -/
namespace Ab
open PySem PySem.Spec PyProof.Rows L2

/-! ### a list that is being made, kept out of sight -/
def Al.hide (αs : Al) (p : Addr) : Al := ⟨αs.l, p :: αs.h⟩
def Al.shown (αs : Al) : Al := ⟨αs.l, αs.h.tail⟩
section
variable {K : PySem.W.Frag} {αs αs' : Al} {H H' : Hp} {st st' : Store} {p a : Addr} {σ : L2.St} {S : AS}
theorem lv_hide : Lv (αs.hide p) st a ↔ Lv αs st a ∨ a = p := by
  constructor
  · rintro (h | h)
    · exact .inl (.inl h)
    · rcases List.mem_cons.mp h with h | h
      · exact .inr h
      · exact .inl (.inr h)
  · rintro ((h | h) | h)
    · exact .inl h
    · exact .inr (List.mem_cons_of_mem _ h)
    · exact .inr (by rw [h]; exact List.mem_cons_self)
/-- the new list is laid, hidden -/
theorem hide_carry (s : SRel K αs st H) (hp : H p = none) : Carry αs (Lv αs st) H (αs.hide p) (Lv (αs.hide p) st) (upd H p (.lst [])) where
  pre := fun _ _ e => e
  keep := fun b o e _ => by rw [upd_ne (ne_of_none e hp)]; exact e
  live := fun b l => (lv_hide.mp l).imp (fun z => z) fun z => by rw [z]; exact hp
  mt := s.mt
theorem hide_srel (s : SRel K αs st H) (hp : H p = none) : SRel K (αs.hide p) st (upd H p (.lst [])) where
  len := s.len
  nd := s.nd
  obj := fun n o a h1 h2 => (s.obj n o a h1 h2).same (hide_carry s hp) fun u e => by rw [upd_ne (ne_of_none e hp)]; exact e
  trk := fun a h => by
    rw [upd_ne (fun z => s.trk a h (by rw [z]; exact hp))]
    exact s.trk a h
  hid := fun a h => by
    rcases List.mem_cons.mp h with h | h
    · subst h
      exact ⟨fun z => s.trk a z hp, [], upd_same⟩
    · obtain ⟨h1, xs, e⟩ := s.hid a h
      exact ⟨h1, xs, by rw [upd_ne (ne_of_none e hp)]; exact e⟩
theorem Rel.hide (R : Rel K αs σ H S) (hp : H p = none) : Rel K (αs.hide p) σ (upd H p (.lst [])) S :=
  ⟨hide_srel R.s hp, R.len, fun i d e => by
    obtain ⟨v, e1, e2⟩ := R.val i d e
    exact ⟨v, e1, e2.mono (hide_carry R.s hp)⟩⟩
/-- the hidden list grows -/
theorem grow_carry {ys : List V} (s : SRel K (αs.hide p) st H) : Carry (αs.hide p) (Lv (αs.hide p) st) H (αs.hide p) (Lv (αs.hide p) st) (upd H p (.lst ys)) where
  pre := fun _ _ e => e
  keep := fun b o e n => by rw [upd_ne (fun z => n (lv_hide.mpr (.inr z)))]; exact e
  live := fun b l => .inl l
  mt := s.mt
theorem grow_srel {ys : List V} (s : SRel K (αs.hide p) st H) : SRel K (αs.hide p) st (upd H p (.lst ys)) where
  len := s.len
  nd := s.nd
  obj := fun n o a h1 h2 => (s.obj n o a h1 h2).same (grow_carry s) fun u e => by
    rw [upd_ne (fun z => (s.hid p List.mem_cons_self).1 (by rw [← z]; exact List.mem_of_getElem? h2))]; exact e
  trk := fun a h => by
    by_cases z : a = p
    · rw [z, upd_same]; exact fun h => nomatch h
    · rw [upd_ne z]; exact s.trk a h
  hid := fun a h => by
    obtain ⟨h1, xs, e⟩ := s.hid a h
    refine ⟨h1, ?_⟩
    by_cases z : a = p
    · rw [z, upd_same]; exact ⟨ys, rfl⟩
    · rw [upd_ne z]; exact ⟨xs, e⟩
theorem Rel.grow {ys : List V} (R : Rel K (αs.hide p) σ H S) : Rel K (αs.hide p) σ (upd H p (.lst ys)) S :=
  ⟨grow_srel R.s, R.len, fun i d e => by
    obtain ⟨v, e1, e2⟩ := R.val i d e
    exact ⟨v, e1, e2.mono (grow_carry R.s)⟩⟩
/-- from around -/
theorem Ext.unhide {αs2 : Al} (x : Ext (αs.hide p) st H αs2 st' H') : Ext αs st H αs2.shown st' H' where
  pre := x.pre
  hid := by
    show αs2.h.tail = αs.h
    rw [x.hid]
    rfl
  hkeep := fun a h => x.hkeep a (List.mem_cons_of_mem _ h)
  len := x.len
  dead := x.dead
  fresh := x.fresh
  keep := fun a o e n => by
    by_cases z : a = p
    · subst z
      rw [x.hkeep a List.mem_cons_self]; exact e
    · exact x.keep a o e fun l => (lv_hide.mp l).elim n z
  trk := x.trk
theorem hide_shown (x : Ext (αs.hide p) st H αs' st' H') : αs' = αs'.shown.hide p := by
  obtain ⟨l, h⟩ := αs'
  have e : h = p :: αs.h := x.hid
  subst e
  rfl
/-- the list as it is, for those around -/
theorem Ext.withNew {o : HO} (s : SRel K αs st H) (x : Ext αs st H αs' st' H') (hp : H p = none) : Ext αs st H αs' st' (upd H' p o) where
  pre := x.pre
  hid := x.hid
  hkeep := fun a h => by
    obtain ⟨_, xs, e⟩ := s.hid a h
    rw [upd_ne (ne_of_none e hp)]
    exact x.hkeep a h
  len := x.len
  dead := x.dead
  fresh := x.fresh
  keep := fun a u e n => by rw [upd_ne (ne_of_none e hp)]; exact x.keep a u e n
  trk := fun a h => by
    by_cases z : a = p
    · rw [z, upd_same]; exact fun h => nomatch h
    · rw [upd_ne z]; exact x.trk a h
theorem show_carry (s : SRel K (αs.hide p) st H) : Carry (αs.hide p) (Lv (αs.hide p) st) H αs (Lv αs st) H where
  pre := fun _ _ e => e
  keep := fun b o e _ => e
  live := fun b l => .inl (lv_hide.mpr (.inl l))
  mt := s.mt
theorem show_srel (s : SRel K (αs.hide p) st H) : SRel K αs st H where
  len := s.len
  nd := s.nd
  obj := fun n o a h1 h2 => (s.obj n o a h1 h2).same (show_carry s) fun u e => e
  trk := s.trk
  hid := fun a h => s.hid a (List.mem_cons_of_mem _ h)
/-- the hidden list becomes a thing of the store -/
theorem lv_add {u : SO} (s : SRel K (αs.hide p) st H) (h : Lv (αs.add p) (st ++ [u]) a) : Lv (αs.hide p) st a := by
  rcases h with ⟨n, o, h1, h2, h3⟩ | h
  case inr => exact .inr (List.mem_cons_of_mem _ h)
  have h1 : (αs.l ++ [p])[n]? = some a := h1
  have len : αs.l.length = st.length := s.len
  by_cases hn : n < st.length
  · rw [List.getElem?_append_left (by omega)] at h1
    rw [List.getElem?_append_left hn] at h2
    exact .inl ⟨n, o, h1, h2, h3⟩
  · rw [List.getElem?_append_right (by omega)] at h1
    have z := List.mem_of_getElem? h1
    exact lv_hide.mpr (.inr (List.mem_singleton.mp z))
theorem add_carry {u : SO} (s : SRel K (αs.hide p) st H) : Carry (αs.hide p) (Lv (αs.hide p) st) H (αs.add p) (Lv (αs.add p) (st ++ [u])) H where
  pre := fun n a e => by
    have e : αs.l[n]? = some a := e
    show (αs.l ++ [p])[n]? = _
    rw [List.getElem?_append_left (List.getElem?_eq_some_iff.mp e).1]; exact e
  keep := fun b o e _ => e
  live := fun b l => .inl (lv_add s l)
  mt := s.mt
theorem add_srel {vs : List V} {ds : List D} (s : SRel K (αs.hide p) st H) (hp : H p = some (.lst vs)) (np : p ∉ αs.h) (r : RpAll K (αs.hide p) (Lv (αs.hide p) st) H vs ds) : SRel K (αs.add p) (st ++ [.lst ds]) H where
  len := by
    show (αs.l ++ [p]).length = _
    have len : αs.l.length = st.length := s.len
    rw [List.length_append, List.length_append, len]; rfl
  nd := List.nodup_append.mpr ⟨s.nd, by simp, fun a ha b hb => by
    rw [List.mem_singleton.mp hb]
    exact fun e => (s.hid p List.mem_cons_self).1 (by rw [← e]; exact ha)⟩
  obj := fun n v a h1 h2 => by
    have h2 : (αs.l ++ [p])[n]? = some a := h2
    have len : αs.l.length = st.length := s.len
    by_cases hn : n < st.length
    · rw [List.getElem?_append_left hn] at h1
      rw [List.getElem?_append_left (by omega)] at h2
      exact (s.obj n v a h1 h2).same (add_carry s) fun w e => e
    · rw [List.getElem?_append_right (by omega)] at h1
      rw [List.getElem?_append_right (by omega)] at h2
      have z1 := List.mem_singleton.mp (List.mem_of_getElem? h1)
      have z2 := List.mem_singleton.mp (List.mem_of_getElem? h2)
      subst z1 z2
      exact ⟨vs, hp, r.mono (add_carry s)⟩
  trk := fun a h => by
    rcases List.mem_append.mp h with h | h
    · exact s.trk a h
    · rw [List.mem_singleton.mp h, hp]; exact fun h => nomatch h
  hid := fun a h => by
    obtain ⟨h1, xs, e⟩ := s.hid a (List.mem_cons_of_mem _ h)
    exact ⟨fun z => (List.mem_append.mp z).elim h1 fun z => np (by rw [← List.mem_singleton.mp z]; exact h), xs, e⟩
theorem Rel.added {vs : List V} {ds : List D} (R : Rel K (αs.hide p) σ H S) (hp : H p = some (.lst vs)) (np : p ∉ αs.h) (r : RpAll K (αs.hide p) (Lv (αs.hide p) S.st) H vs ds) : Rel K (αs.add p) σ H ⟨S.σ, S.st ++ [.lst ds]⟩ :=
  ⟨add_srel R.s hp np r, R.len, fun i d e => by
    obtain ⟨v, e1, e2⟩ := R.val i d e
    exact ⟨v, e1, e2.mono (add_carry R.s)⟩⟩
theorem Ext.added {αs0 : Al} {st0 : Store} {H0 : Hp} {u : SO} (x : Ext αs0 st0 H0 αs st H) (hl : αs.l.length = st.length) (hp : H0 p = none) : Ext αs0 st0 H0 (αs.add p) (st ++ [u]) H where
  pre := fun n a e => by
    show (αs.l ++ [p])[n]? = _
    rw [List.getElem?_append_left (List.getElem?_eq_some_iff.mp (x.pre n a e)).1]; exact x.pre n a e
  hid := x.hid
  hkeep := x.hkeep
  len := by rw [List.length_append]; have := x.len; omega
  dead := fun n e => by rw [List.getElem?_append_left (List.getElem?_eq_some_iff.mp (x.dead n e)).1]; exact x.dead n e
  fresh := fun n a hn e => by
    have e : (αs.l ++ [p])[n]? = some a := e
    by_cases h : n < αs.l.length
    · rw [List.getElem?_append_left h] at e
      exact x.fresh n a hn e
    · rw [List.getElem?_append_right (by omega)] at e
      rw [List.mem_singleton.mp (List.mem_of_getElem? e)]
      exact hp
  keep := x.keep
  trk := x.trk
theorem Rel.show (R : Rel K (αs.hide p) σ H S) : Rel K αs σ H S :=
  ⟨show_srel R.s, R.len, fun i d e => by
    obtain ⟨v, e1, e2⟩ := R.val i d e
    exact ⟨v, e1, e2.mono (show_carry R.s)⟩⟩
end

/-! ### targets that are names, or tuples of such -/
inductive Tg where
  | nm (i : Nat)
  | tp (ts : List Tg)
mutual
def Tg.cV (K : PySem.W.Frag) : Tg → TG
  | .nm i => L2.gName i
  | .tp ts => L2.gTup K ts.length (Tg.cVs K ts)
def Tg.cVs (K : PySem.W.Frag) : List Tg → TGs
  | [] => L2.gNil
  | t :: r => L2.gCons (Tg.cV K t) (Tg.cVs K r)
end
mutual
def Tg.put : Tg → D → List (Option D) → Option (List (Option D))
  | .nm i, d, σ => some (σ.set i (some d))
  | .tp ts, d, σ => match d with
    | .tup xs => Tg.puts ts xs σ
    | _ => none
def Tg.puts : List Tg → List D → List (Option D) → Option (List (Option D))
  | [], [], σ => some σ
  | t :: r, d :: ds, σ => match Tg.put t d σ with
    | some σ1 => Tg.puts r ds σ1
    | none => none
  | [], _ :: _, _ => none
  | _ :: _, [], _ => none
end
mutual
def Tg.slots : Tg → List Nat
  | .nm i => [i]
  | .tp ts => Tg.slotss ts
def Tg.slotss : List Tg → List Nat
  | [] => []
  | t :: r => Tg.slots t ++ Tg.slotss r
end
theorem wipe_at {σ : L2.St} {vs : List Nat} {i : Nat} : (wipe σ vs)[i]? = if i ∈ vs ∧ i < σ.length then some none else σ[i]? := by
  induction vs with
  | nil => simp [wipe]
  | cons v vs ih =>
    unfold wipe
    by_cases h : v = i
    · subst h
      by_cases hl : v < (wipe σ vs).length
      · rw [List.getElem?_set_self hl]
        rw [wipe_length] at hl
        simp [hl]
      · rw [List.getElem?_eq_none (by rw [List.length_set]; omega)]
        rw [wipe_length] at hl
        rw [if_neg (fun z => hl z.2), List.getElem?_eq_none (by omega)]
    · rw [List.getElem?_set_ne h, ih]
      have h' : ¬ i = v := fun z => h z.symm
      simp [h']
theorem wipe_set {σ : L2.St} {vs : List Nat} {i : Nat} {x : Option V} (h : i ∈ vs) : wipe (σ.set i x) vs = wipe σ vs := by
  apply List.ext_getElem?
  intro j
  rw [wipe_at, wipe_at, List.length_set]
  by_cases hj : i = j
  · subst hj
    by_cases hl : i < σ.length
    · rw [if_pos ⟨h, hl⟩, if_pos ⟨h, hl⟩]
    · rw [if_neg (fun z => hl z.2), if_neg (fun z => hl z.2), List.getElem?_eq_none (by rw [List.length_set]; omega), List.getElem?_eq_none (by omega)]
  · rw [List.getElem?_set_ne hj]
theorem wipe_wipe {σ : L2.St} {vs : List Nat} : wipe (wipe σ vs) vs = wipe σ vs := by
  apply List.ext_getElem?
  intro j
  rw [wipe_at, wipe_at, wipe_length]
  by_cases h : j ∈ vs ∧ j < σ.length
  · rw [if_pos h, if_pos h]
  · rw [if_neg h, if_neg h]
def wipeD (σ : List (Option D)) : List Nat → List (Option D)
  | [] => σ
  | v :: vs => (wipeD σ vs).set v none
section
variable {K : PySem.W.Frag} {αs : Al} {H : Hp} {st : Store} {σ : L2.St}
theorem Rel.unset {S : AS} (R : Rel K αs σ H S) (i : Nat) : Rel K αs (σ.set i none) H ⟨S.σ.set i none, S.st⟩ :=
  ⟨R.s, by rw [List.length_set, List.length_set, R.len], fun j d e => by
    have e : (S.σ.set i none)[j]? = some (some d) := e
    by_cases hj : i = j
    · subst hj
      by_cases hl : i < S.σ.length
      · rw [List.getElem?_set_self hl] at e; cases e
      · rw [List.getElem?_eq_none (by rw [List.length_set]; omega)] at e; cases e
    · rw [List.getElem?_set_ne hj] at e
      obtain ⟨v, e1, e2⟩ := R.val j d e
      exact ⟨v, by rw [List.getElem?_set_ne hj]; exact e1, e2⟩⟩
theorem Rel.wipe {σD : List (Option D)} (R : Rel K αs σ H ⟨σD, st⟩) : ∀ vs : List Nat, Rel K αs (L2.wipe σ vs) H ⟨wipeD σD vs, st⟩
  | [] => R
  | v :: vs => (Rel.wipe R vs).unset v
mutual
theorem Tg.ok {Q : L2.St → Hp → Prop} {vs : List Nat} : ∀ (t : Tg) {v : V} {d : D} {σ : L2.St} {σD σD' : List (Option D)}, Rel K αs σ H ⟨σD, st⟩ → Rp K αs (Lv αs st) H v d → Tg.put t d σD = some σD' → (∀ i ∈ Tg.slots t, i ∈ vs) →
    (∀ σ', Rel K αs σ' H ⟨σD', st⟩ → L2.wipe σ' vs = L2.wipe σ vs → Q σ' H) → Tg.cV K t v σ H Q
  | .nm i, v, d, σ, σD, σD', R, r, e, hs, q => by
    simp only [Tg.put, Option.some.injEq] at e
    subst e
    unfold Tg.cV
    exact q _ (R.set r) (wipe_set (hs i (by unfold Tg.slots; exact List.mem_cons_self)))
  | .tp ts, v, d, σ, σD, σD', R, r, e, hs, q => by
    simp only [Tg.put] at e
    split at e
    · rename_i xs
      cases r with
      | @tup a ws _ e1 r1 =>
        unfold Tg.cV
        refine ⟨a, ws, rfl, e1, ?_, Tg.oks ts R r1 e (fun i h => hs i (by unfold Tg.slots; exact h)) q⟩
        rw [r1.length]
        exact Tg.putsLen ts e
    · cases e
theorem Tg.oks {Q : L2.St → Hp → Prop} {vs : List Nat} : ∀ (ts : List Tg) {ws : List V} {ds : List D} {σ : L2.St} {σD σD' : List (Option D)}, Rel K αs σ H ⟨σD, st⟩ → RpAll K αs (Lv αs st) H ws ds → Tg.puts ts ds σD = some σD' → (∀ i ∈ Tg.slotss ts, i ∈ vs) →
    (∀ σ', Rel K αs σ' H ⟨σD', st⟩ → L2.wipe σ' vs = L2.wipe σ vs → Q σ' H) → Tg.cVs K ts ws σ H Q
  | [], _, _, σ, σD, σD', R, .nil, e, hs, q => by
    simp only [Tg.puts, Option.some.injEq] at e
    subst e
    unfold Tg.cVs
    exact ⟨rfl, q _ R rfl⟩
  | [], _, _, σ, σD, σD', R, .cons _ _, e, hs, q => by simp only [Tg.puts] at e; cases e
  | t :: ts, _, _, σ, σD, σD', R, .nil, e, hs, q => by simp only [Tg.puts] at e; cases e
  | t :: ts, _, _, σ, σD, σD', R, .cons r rr, e, hs, q => by
    simp only [Tg.puts] at e
    split at e
    · rename_i σ1 h1
      unfold Tg.cVs
      refine ⟨_, _, rfl, Tg.ok (vs := vs) t R r h1 (fun i h => hs i (by unfold Tg.slotss; exact List.mem_append_left _ h)) fun σ' R' w => ?_⟩
      exact Tg.oks ts R' rr e (fun i h => hs i (by unfold Tg.slotss; exact List.mem_append_right _ h)) fun σ2 R2 w2 => q σ2 R2 (w2.trans w)
    · cases e
theorem Tg.putsLen : ∀ (ts : List Tg) {ds : List D} {σD σD' : List (Option D)}, Tg.puts ts ds σD = some σD' → ds.length = ts.length
  | [], [], _, _, _ => rfl
  | [], _ :: _, _, _, e => by simp only [Tg.puts] at e; cases e
  | _ :: _, [], _, _, e => by simp only [Tg.puts] at e; cases e
  | t :: ts, d :: ds, _, _, e => by
    simp only [Tg.puts] at e
    split at e
    · rw [List.length_cons, List.length_cons, Tg.putsLen ts e]
    · cases e
end
end

/-! ### comprehensions -/
abbrev noX : AX := fun _ _ => False
def compL (tg : Tg) (tt : AB) (te : AE) (vs : List Nat) (σ0 : List (Option D)) (Q : List D → Store → Prop) : List D → List D → Store → Prop
  | [], acc, st => Q acc st
  | d :: r, acc, st => ∃ σ1, Tg.put tg d (wipeD σ0 vs) = some σ1 ∧ tt ⟨σ1, st⟩ (fun b S2 => if b = true then te S2 (fun y S3 => acc.length < sizeLine ∧ compL tg tt te vs σ0 Q r (acc ++ [y]) S3.st) noX else compL tg tt te vs σ0 Q r acc S2.st) noX
def compV (n : Nat) (l : List D) (tg : Tg) (tt : AB) (te : AE) (vs : List Nat) (σ0 : List (Option D)) (Q : List D → Store → Prop) : List D → List D → Store → Prop
  | [], acc, st => st[n]? = some (.lst l) ∧ Q acc st
  | d :: r, acc, st => st[n]? = some (.lst l) ∧ ∃ σ1, Tg.put tg d (wipeD σ0 vs) = some σ1 ∧ tt ⟨σ1, st⟩ (fun b S2 => if b = true then te S2 (fun y S3 => acc.length < sizeLine ∧ compV n l tg tt te vs σ0 Q r (acc ++ [y]) S3.st) noX else compV n l tg tt te vs σ0 Q r acc S2.st) noX
def compS (s : Src) (tg : Tg) (tt : AB) (te : AE) (vs : List Nat) (σ0 : List (Option D)) (Q : List D → Store → Prop) : List D → List D → Store → Prop
  | [], acc, st => s.stays st ∧ Q acc st
  | d :: r, acc, st => s.stays st ∧ ∃ σ1, Tg.put tg d (wipeD σ0 vs) = some σ1 ∧ tt ⟨σ1, st⟩ (fun b S2 => if b = true then te S2 (fun y S3 => acc.length < sizeLine ∧ compS s tg tt te vs σ0 Q r (acc ++ [y]) S3.st) noX else compS s tg tt te vs σ0 Q r acc S2.st) noX
def aLC (b : Bool) (t : AI) (tg : Tg) (tt : AB) (te : AE) (vs : List Nat) : AE := fun S Q X => t S (fun s S1 => match s with
  | .fixed l => compL tg tt te vs S1.σ (fun acc st => newL b acc st fun d st' => Q d ⟨S1.σ, st'⟩) l [] S1.st
  | .live n l its => compV n l tg tt te vs S1.σ (fun acc st => newL b acc st fun d st' => Q d ⟨S1.σ, st'⟩) its [] S1.st) X
section
variable {tg : Tg} {tt : AB} {te : AE} {vs : List Nat} {σ0 : List (Option D)} {Q : List D → Store → Prop}
theorem compS_fixed {l : List D} : ∀ r : List D, compS (.fixed l) tg tt te vs σ0 Q r = compL tg tt te vs σ0 Q r
  | [] => by funext acc st; simp only [compS, compL, Src.stays, true_and]
  | d :: r => by funext acc st; simp only [compS, compL, Src.stays, true_and, compS_fixed r]
theorem compS_live {n : Nat} {l its : List D} : ∀ r : List D, compS (.live n l its) tg tt te vs σ0 Q r = compV n l tg tt te vs σ0 Q r
  | [] => by funext acc st; simp only [compS, compV, Src.stays]
  | d :: r => by funext acc st; simp only [compS, compV, Src.stays, compS_live r]
end
abbrev noW : WX := fun _ _ _ _ => False
theorem noX_ok {K : PySem.W.Frag} {αs : Al} {st : Store} {H : Hp} {σ : L2.St} : XOk K noW αs st H σ noX := fun _ _ _ _ _ _ _ _ _ h => h
section
variable {X : Cx} {W : WX} {tge iter elt : Expr} {ifs : List Expr} {scope : Scope} {own : List (Str × Nat)} {pos : Pos} {t : AI} {tg : Tg} {tt : AB} {te : AE}
abbrev JTs (X : Cx) (W : WX) (es : List Expr) (t : AB) : Prop := PTs X es (concB X.K W t)
def aYes : AB := fun S Q _ => Q true S
theorem PTs.imp {X : Cx} {es : List Expr} {t t' : TT} (h : PTs X es t) (i : ∀ σ H Q, t' σ H Q → t σ H Q) : PTs X es t' := ⟨fun pins s σ H Q I q => h.run pins s σ H Q I (i σ H Q q)⟩
theorem jts_nil : JTs X W [] aYes := PTs.imp pts_nil fun σ H Q ⟨αs, S, QA, XA, R, h, q, x⟩ => q αs true H S R R.ext0 h
theorem jts_one {c : Expr} (h : JB X W c tt) : JTs X W [c] tt := pts_one h
/-- what a comprehension reads, by its list -/
theorem conc_lc (b : Bool) (hs : ∀ i ∈ Tg.slots tg, i ∈ own.map (·.2)) : ∀ σ H Q, conc X.K W (aLC b t tg tt te (own.map (·.2))) σ H Q → tLc (concI X.K W t) (Tg.cV X.K tg) (concB X.K noW tt) (conc X.K noW te) (own.map (·.2)) σ H Q := fun σ H Q ⟨αs, S, QA, XA, R, h, q, x⟩ => by
  refine ⟨αs, S, _, XA, R, h, fun αs1 J H1 S1 s R1 e1 ok h1 => ?_, x⟩
  have h1 : compS s tg tt te (own.map (·.2)) S1.σ (fun acc st => newL b acc st fun d st' => QA d ⟨S1.σ, st'⟩) s.its [] S1.st := by
    cases s with
    | fixed l => rw [compS_fixed]; exact h1
    | live n l its => rw [compS_live]; exact h1
  intro p hp
  refine ⟨fun i m H' => m + i = s.its.length ∧ ∃ (αs' : Al) (st' : Store) (acc : List D) (accV : List V), Rel X.K (αs'.hide p) σ H' ⟨S1.σ, st'⟩ ∧ Ext αs1 S1.st H1 αs' st' H' ∧ H' p = some (.lst accV) ∧ RpAll X.K (αs'.hide p) (Lv (αs'.hide p) st') H' accV acc ∧
      compS s tg tt te (own.map (·.2)) S1.σ (fun acc st => newL b acc st fun d st' => QA d ⟨S1.σ, st'⟩) (s.its.drop i) acc st',
    ⟨s.its.length, rfl, αs1, S1.st, [], [], R1.hide hp, (Ext.withNew R1.s R1.ext0 hp), upd_same, .nil, h1⟩, ?_⟩
  rintro i m H2 ⟨hm, αs2, st2, acc, accV, R2, e2, hpv, ra, h2⟩
  have R2' : Rel X.K αs2 σ H2 ⟨S1.σ, st2⟩ := R2.show
  by_cases hi : i < s.its.length
  · obtain ⟨d, hd⟩ : ∃ d, s.its[i]? = some d := ⟨_, List.getElem?_eq_getElem hi⟩
    have hdr : s.its.drop i = d :: s.its.drop (i + 1) := by
      rw [List.drop_eq_getElem_cons hi]
      rw [List.getElem?_eq_getElem hi] at hd
      cases hd
      rfl
    rw [hdr] at h2
    obtain ⟨hst, σ1, hput, h2⟩ := h2
    have hh : ∀ a ∈ [p], H1 a = none := fun a z => by rw [List.mem_singleton.mp z]; exact hp
    obtain ⟨hgo, hy⟩ := ok.item αs2 [p] σ H2 ⟨S1.σ, st2⟩ hh R2 e2 hst i d hd
    refine .inr ⟨hgo, fun H' => (m - 1) + (i + 1) = s.its.length ∧ ∃ (αs' : Al) (st' : Store) (acc : List D) (accV : List V), Rel X.K (αs'.hide p) σ H' ⟨S1.σ, st'⟩ ∧ Ext αs1 S1.st H1 αs' st' H' ∧ H' p = some (.lst accV) ∧ RpAll X.K (αs'.hide p) (Lv (αs'.hide p) st') H' accV acc ∧
      compS s tg tt te (own.map (·.2)) S1.σ (fun acc st => newL b acc st fun d st' => QA d ⟨S1.σ, st'⟩) (s.its.drop (i + 1)) acc st', fun H' hN => ⟨m - 1, by omega, hN⟩, fun xv H3 y => ?_⟩
    obtain ⟨s3, e3, r3⟩ := hy xv H3 y
    have e3 : Ext (αs2.hide p) st2 H2 (αs2.hide p) st2 H3 := e3
    have R3 : Rel X.K (αs2.hide p) σ H3 ⟨S1.σ, st2⟩ := R2.mono e3 s3
    refine Tg.ok (vs := own.map (·.2)) tg (R3.wipe (own.map (·.2))) r3 hput hs fun σ4 R4 w4 => ⟨w4.trans wipe_wipe, ?_⟩
    -- the test
    refine ⟨αs2.hide p, _, _, noX, R4, h2, fun αs5 bv H5 S5 R5 e5 h5 => ?_, noX_ok⟩
    have e35 := e3.trans R2.s e5 s3
    have step : ∀ {αs6 : Al} {H6 : Hp} {st6 : Store}, SRel X.K αs6 st6 H6 → Ext (αs2.hide p) st2 H2 αs6 st6 H6 → αs6 = αs6.shown.hide p ∧ Rel X.K αs6 σ H6 ⟨S1.σ, st6⟩ ∧ Ext αs1 S1.st H1 αs6.shown st6 H6 ∧ H6 p = some (.lst accV) ∧ RpAll X.K αs6 (Lv αs6 st6) H6 accV acc :=
      fun {αs6 H6 st6} s6 e6 => ⟨hide_shown e6, R2.mono e6 s6, e2.trans R1.s e6.unhide R2'.s, by rw [e6.hkeep p List.mem_cons_self]; exact hpv, ra.mono (e6.carry R2.s)⟩
    cases bv with
    | false =>
      obtain ⟨q1, q2, q3, q4, q5⟩ := step R5.s e35
      rw [q1] at q2 q5
      exact ⟨by omega, αs5.shown, S5.st, acc, accV, q2, q3, q4, q5, h5⟩
    | true =>
      refine ⟨αs5, S5, _, noX, R5, h5, fun αs6 yv H6 yd S6 R6 e6 r6 ⟨hl, h6⟩ => ?_, noX_ok⟩
      obtain ⟨q1, q2, q3, q4, q5⟩ := step R6.s (e35.trans R2.s e6 R5.s)
      refine ⟨accV, q4, by rw [q5.length]; exact hl, by omega, αs6.shown, S6.st, acc ++ [yd], accV ++ [yv], ?_, q3.withNew R1.s hp, upd_same, ?_, h6⟩
      · rw [q1] at q2
        exact q2.grow
      · have s6 := R6.s
        rw [q1] at q5 r6 s6
        exact (q5.append (.cons r6 .nil)).mono (grow_carry s6)
  · have hdr : s.its.drop i = [] := List.drop_eq_nil_of_le (by omega)
    rw [hdr] at h2
    obtain ⟨hst, h2⟩ := h2
    have ei : i = s.its.length := by omega
    subst ei
    have hh : ∀ a ∈ [p], H1 a = none := fun a z => by rw [List.mem_singleton.mp z]; exact hp
    refine .inl ⟨ok.stop αs2 [p] σ H2 ⟨S1.σ, st2⟩ hh R2 e2 hst, ?_⟩
    have nl : ¬ Lv αs2 st2 p := fun l => by
      rcases l with ⟨n, o, h1, _, _⟩ | l
      · exact (R2.s.hid p List.mem_cons_self).1 (List.mem_of_getElem? h1)
      · rw [e2.hid] at l
        obtain ⟨_, xs, z⟩ := R1.s.hid p l
        rw [hp] at z
        cases z
    have e02 := e1.trans R.s e2 R1.s
    have ra2 : RpAll X.K αs2 (Lv αs2 st2) H2 accV acc := ra.mono (show_carry R2.s)
    cases b with
    | false => exact q αs2 _ H2 _ ⟨S1.σ, st2⟩ R2' e02 (.lst hpv nl ra2) h2
    | true =>
      -- live from now on
      have np : p ∉ αs2.h := fun z => nl (.inr z)
      have h2 : QA (.ref st2.length) ⟨S1.σ, st2 ++ [.lst acc]⟩ := h2
      refine q (αs2.add p) _ H2 _ ⟨S1.σ, st2 ++ [.lst acc]⟩ (R2.added hpv np ra) (e1.trans R.s (e2.added R2'.s.len hp) R1.s) (.ref ?_) h2
      show (αs2.l ++ [p])[st2.length]? = _
      have len : αs2.l.length = st2.length := R2'.s.len
      rw [← len, List.getElem?_append_right (Nat.le_refl _)]
      simp
theorem j_lc (b : Bool) (hc : X.calm = true) (hN : X.N.Nodup) (hi : JI X W tge iter t) (ok : BlkOk X.N X.env.scope scope own) (hs : ∀ i ∈ Tg.slots tg, i ∈ own.map (·.2))
    (hg : ∀ (s : Shared) (H : Hp) (C : Addr) (cl : List (Str × Addr)) (fp : List Addr), PG (X.blk s H scope (compEnvC scope cl C X.env) fp) tge (Tg.cV X.K tg))
    (ht : ∀ (s : Shared) (H : Hp) (C : Addr) (cl : List (Str × Addr)) (fp : List Addr), JTs (X.blk s H scope (compEnvC scope cl C X.env) fp) noW ifs tt)
    (he : ∀ (s : Shared) (H : Hp) (C : Addr) (cl : List (Str × Addr)) (fp : List Addr), JE (X.blk s H scope (compEnvC scope cl C X.env) fp) noW elt te) (hf : ∀ x, foldedSetIterable iter X.env x = pure x := by intro _; rfl) :
    JE X W (.ListComp elt [⟨tge, iter, ifs, 0⟩] scope pos) (aLC b t tg tt te (own.map (·.2))) := PE.imp (pe_lc hc hN hi ok hg ht he hf) (conc_lc b hs)
theorem js_setLc (b : Bool) {i : Nat} {y : Str} {py spos : Pos} (hc : X.calm = true) (hN : X.N.Nodup) (hy : X.N[i]? = some y) (hyl : X.env.scope.names.lookup y = some .local)
    (hsw : swapsWith (.ListComp elt [⟨tge, iter, ifs, 0⟩] scope pos) (some (.Name y py)) spos.line X.env = pure true) (hi : JI X W tge iter t) (ok : BlkOk X.N X.env.scope scope own) (hs : ∀ i ∈ Tg.slots tg, i ∈ own.map (·.2))
    (hg : ∀ (s : Shared) (H : Hp) (C : Addr) (cl : List (Str × Addr)) (fp : List Addr), PG (X.blk s H scope (compEnvC scope cl C X.env) fp) tge (Tg.cV X.K tg))
    (ht : ∀ (s : Shared) (H : Hp) (C : Addr) (cl : List (Str × Addr)) (fp : List Addr), JTs (X.blk s H scope (compEnvC scope cl C X.env) fp) noW ifs tt)
    (he : ∀ (s : Shared) (H : Hp) (C : Addr) (cl : List (Str × Addr)) (fp : List Addr), JE (X.blk s H scope (compEnvC scope cl C X.env) fp) noW elt te) (hf : ∀ x, foldedSetIterable iter X.env x = pure x := by intro _; rfl) :
    JS X W (.Assign [.Name y py] (.ListComp elt [⟨tge, iter, ifs, 0⟩] scope pos) spos) (aAsg (aLC b t tg tt te (own.map (·.2))) (gName i)) :=
  PS.imp (ps_setLc hc hN hy hyl hsw hi ok hg ht he hf) fun D σ H ⟨αs, S, DA, R, h, q⟩ =>
    conc_lc b hs σ H _ ⟨αs, S, _, _, R, h, fun αs1 v H1 d S1 R1 e1 rv h1 => (q.on R R1 e1).nx αs1 _ H1 _ (R1.set rv) R1.ext0 h1, q.x σ⟩
end
end Ab
set_option Elab.async false
set_option linter.all false
set_option maxRecDepth 100000
set_option autoImplicit false
/-! Defs, calls, exceptions. -/
namespace Ab
open PySem PySem.Spec PyProof.Rows L2

/-! ### promises -/
abbrev ASp := List D → Store → (D → Store → Prop) → (XD → Store → Prop) → Prop
def YOk (K : PySem.W.Frag) (αs : Al) (st : Store) (H : Hp) (EA : XD → Store → Prop) (E : XK) : Prop :=
  ∀ αs' H' st' cls dd gs, SRel K αs' st' H' → Ext αs st H αs' st' H' → XRel K αs' (Lv αs' st') H' dd gs → EA ⟨cls, gs⟩ st' → E cls dd H'
def spOf (K : PySem.W.Frag) (n : Nat) (asp : ASp) : Sp := fun vs H Q E => ∃ αs st ds QA EA, ds.length = n ∧ SRel K αs st H ∧ RpAll K αs (Lv αs st) H vs ds ∧ asp ds st QA EA ∧ ZOk K αs st H QA Q ∧ YOk K αs st H EA E
theorem spOf_len {K : PySem.W.Frag} {n : Nat} {asp : ASp} : ∀ vs H Q E, spOf K n asp vs H Q E → vs.length = n := fun vs H Q E ⟨αs, st, ds, QA, EA, h1, h2, h3, _⟩ => h3.length.trans h1
def aCall (n : Nat) (asp : ASp) (t : AA) : AE := fun S Q X => t S (fun ds S1 => ds.length = n ∧ asp ds S1.st (fun d st => Q d ⟨S1.σ, st⟩) fun x st => X x ⟨S1.σ, st⟩) X
section
variable {X : Cx} {W : WX} {e : Expr} {es : List Expr} {t tk : AA} {x : Str} {p pos : Pos} {k n : Nat} {f : Addr} {fd : FuncData} {ps ks : List Str} {asp : ASp} {kws : List Keyword}
theorem YOk.of {K : PySem.W.Frag} {αs αs1 : Al} {σ : L2.St} {H H1 : Hp} {S S1 : AS} {XA : AX} (x : XOk K W αs S.st H σ XA) (R : Rel K αs σ H S) (R1 : Rel K αs1 σ H1 S1) (e1 : Ext αs S.st H αs1 S1.st H1) :
    YOk K αs1 S1.st H1 (fun y st => XA y ⟨S1.σ, st⟩) (WE W σ) := fun αs' H' st' cls dd gs s' e' q h => x αs' H' ⟨S1.σ, st'⟩ cls dd gs (R1.mono e' s') (e1.trans R.s e' R1.s) q h
theorem conc_call : ∀ σ H Q, conc X.K W (aCall n asp t) σ H Q → tCallS (spOf X.K n asp) (WE W) (concA X.K W t) σ H Q := fun σ H Q ⟨αs, S, QA, XA, R, h, q, xo⟩ =>
  ⟨αs, S, _, XA, R, h, fun αs1 vs H1 ds S1 R1 e1 rv ⟨hl, h1⟩ => ⟨αs1, S1.st, ds, _, _, hl, R1.s, rv, h1, ZOk.of q R R1 e1, YOk.of xo R R1 e1⟩, xo⟩
theorem j_call (tk : Takes X W) (F : FnOk X.prog X.w X.K X.mg X.base (L2.CX X.prog X.w) k f fd ps (spOf X.K n asp)) (hr : Room k X.A) (hg : Gl X x) (hm : X.mg x = some (.ref f)) (hk : PySem.W.keepIn X.K (.ref f) = true) (hb : Binds X.K fd ps [])
    (ha : JA X W (e :: es) t) (hdb : (x == ("__debug__" : Str)) = false := by decide) (he : starEach (e :: es) X.env = (false, eval e X.env) :: starEach es X.env := by rfl) (hpl : (backTo pos (starEach es X.env)).any (·.1) = false := by rfl) :
    JE X W (.Call (.Name x p) (e :: es) [] pos) (aCall n asp t) := PE.imp (pe_callS F hr hg hm hk hb (fun σ => passAt tk σ) ha hdb he hpl) conc_call

/-! ### keywords: the parameters' order by places in «positional values, then the keywords' values» -/
def pick {α : Type} (z : α) (l : List Nat) (xs : List α) : List α := l.map fun i => xs.getD i z
structure KB (fd : FuncData) (ps : List Str) (n : Nat) (ks : List Str) (perm : List Nat) : Prop where
  to : ∀ us ws : List Value, us.length = n → ws.length = ks.length → bindArgs fd ⟨us, ks.zip ws⟩ = pure (ps.zip (pick Value.none perm (us ++ ws)))
theorem pick_vals {vs : List V} {us : List Value} (r : Vals vs us) : ∀ l : List Nat, Vals (pick V.non l vs) (pick Value.none l us)
  | [] => .nil
  | i :: l => by
    refine .cons (show L2.RelV (vs.getD i V.non) (us.getD i Value.none) from ?_) (pick_vals r l)
    rw [List.getD_eq_getElem?_getD, List.getD_eq_getElem?_getD]
    cases h : vs[i]? with
    | none => rw [r.none_of h]; rfl
    | some v =>
      obtain ⟨u, h1, h2⟩ := r.get h
      rw [h1]
      exact h2
theorem pick_rp {K : PySem.W.Frag} {αs : Al} {L : Addr → Prop} {H : Hp} {vs : List V} {ds : List D} (r : RpAll K αs L H vs ds) : ∀ l : List Nat, RpAll K αs L H (pick V.non l vs) (pick D.non l ds)
  | [] => .nil
  | i :: l => by
    refine .cons (show Rp K αs L H (vs.getD i V.non) (ds.getD i D.non) from ?_) (pick_rp r l)
    rw [List.getD_eq_getElem?_getD, List.getD_eq_getElem?_getD]
    cases h : vs[i]? with
    | none =>
      have h2 : ds[i]? = none := by
        rw [List.getElem?_eq_none_iff] at h ⊢
        rw [← r.length]; exact h
      rw [h2]; exact .non
    | some v =>
      obtain ⟨d, h1, h2⟩ := r.getV h
      rw [h1]
      exact h2
def tCallP (n m : Nat) (perm : List Nat) (sp : Sp) (E : L2.St → XK) (t tk : TA) : TE := fun σ H Q => t σ H fun vs H1 => tk σ H1 fun zs H2 => vs.length = n ∧ zs.length = m ∧ sp (pick V.non perm (vs ++ zs)) H2 Q (E σ)
theorem run_fnP {perm : List Nat} {sp : Sp} {E : L2.St → XK} {pins : List (Addr × Obj)} {σ : L2.St} {H : Hp} {s : Shared} {Q : VK} {us ws : List Value} {vs zs : List V} (F : FnOk X.prog X.w X.K X.mg X.base (L2.CX X.prog X.w) k f fd ps sp) (hr : Room k X.A)
    (hb : KB fd ps n ks perm) (hx : PassesAt (L2.CX X.prog X.w) X σ (E σ)) (J : Inv X pins σ H s) (r : Vals vs us) (rz : Vals zs ws) (l1 : vs.length = n) (l2 : zs.length = ks.length) (hq : sp (pick V.non perm (vs ++ zs)) H Q (E σ)) :
    wpAny (model X.prog X.w) X.A (PySem.call (.ref f) us (ks.zip ws)) (EP X pins σ Q) X.xe s := by
  have to := hb.to us ws (r.length.symm.trans l1) (rz.length.symm.trans l2)
  refine wpAny_call (codeAny_mono (F.run X.A X.stack s H ⟨us, ks.zip ws⟩ _ _ Q (E σ) hr J.env0 (BindsTo.of_eq to) (pick_vals (r.append rz) perm) hq) fun res sz hz => ?_)
  cases res with
  | error er => exact hx pins H s er sz J hz
  | ok fl =>
    cases fl with
    | ret u => exact J.after hz
    | _ => exact False.elim hz
def aCallK (n m : Nat) (perm : List Nat) (np : Nat) (asp : ASp) (t tk : AA) : AE := fun S Q X => t S (fun ds S1 => tk S1 (fun zs S2 => ds.length = n ∧ zs.length = m ∧ (pick D.non perm (ds ++ zs)).length = np ∧ asp (pick D.non perm (ds ++ zs)) S2.st (fun d st => Q d ⟨S2.σ, st⟩) fun x st => X x ⟨S2.σ, st⟩) X) X
abbrev JK (X : Cx) (W : WX) (kws : List Keyword) (t : AA) : Prop := PK X kws (concA X.K W t)
theorem PK.imp {X : Cx} {e : List Keyword} {t t' : TA} (h : PK X e t) (i : ∀ σ H Q, t' σ H Q → t σ H Q) : PK X e t' := ⟨fun pos pins s σ H Q I q => h.run pos pins s σ H Q I (i σ H Q q)⟩
theorem jk_nil : JK X W [] aNil := PK.imp pk_nil fun σ H Q ⟨αs, S, QA, XA, R, h, q, xo⟩ => q αs [] H [] S R R.ext0 .nil h
theorem jk_cons {nm : Option Str} {kpos : Pos} {te : AE} (ha : JE X W e te) (hr : JK X W kws t) : JK X W (⟨nm, e, kpos⟩ :: kws) (aCons te t) :=
  PK.imp (pk_cons ha hr) fun σ H Q ⟨αs, S, QA, XA, R, h, q, xo⟩ => by
    refine ⟨αs, S, _, XA, R, h, fun αs1 v H1 d S1 R1 e1 rv h1 => ?_, xo⟩
    refine ⟨αs1, S1, _, XA, R1, h1, fun αs2 ws H2 es S2 R2 e2 rw h2 => ?_, xo.on R R1 e1⟩
    exact q αs2 _ H2 _ S2 R2 (e1.trans R.s e2 R1.s) (.cons (rv.mono (e2.carry R1.s)) rw) h2
theorem conc_callK {perm : List Nat} {np m : Nat} : ∀ σ H Q, conc X.K W (aCallK n m perm np asp t tk) σ H Q → tCallP n m perm (spOf X.K np asp) (WE W) (concA X.K W t) (concA X.K W tk) σ H Q := fun σ H Q ⟨αs, S, QA, XA, R, h, q, xo⟩ => by
  refine ⟨αs, S, _, XA, R, h, fun αs1 vs H1 ds S1 R1 e1 rv h1 => ?_, xo⟩
  refine ⟨αs1, S1, _, XA, R1, h1, fun αs2 ws H2 es S2 R2 e2 rw ⟨l1, l2, l3, h2⟩ => ?_, xo.on R R1 e1⟩
  have e12 := e1.trans R.s e2 R1.s
  have rv2 := rv.mono (e2.carry R1.s)
  exact ⟨rv2.length.trans l1, rw.length.trans l2, αs2, S2.st, _, _, _, l3, R2.s, pick_rp (rv2.append rw) perm, h2, ZOk.of q R R2 e12, YOk.of xo R R2 e12⟩
theorem pe_callP {perm : List Nat} {sp : Sp} {E : L2.St → XK} {tv tz : TA} (F : FnOk X.prog X.w X.K X.mg X.base (L2.CX X.prog X.w) k f fd ps sp) (hr : Room k X.A) (hg : Gl X x) (hm : X.mg x = some (.ref f)) (hk : PySem.W.keepIn X.K (.ref f) = true) (hb : KB fd ps n ks perm) (hx : ∀ σ, PassesAt (L2.CX X.prog X.w) X σ (E σ))
    (ha : PA X (e :: es) tv) (hkw : PK X kws tz) (hall : (backToKw pos (keywordEach kws X.env)).all (·.1.isSome) = true := by rfl) (hks : (backToKw pos (keywordEach kws X.env)).filterMap (·.1) = ks := by rfl)
    (hdb : (x == ("__debug__" : Str)) = false := by decide) (he : starEach (e :: es) X.env = (false, eval e X.env) :: starEach es X.env := by rfl)
    (hpl : ((backTo pos (starEach (e :: es) X.env)).any (·.1) || (backToKw pos (keywordEach kws X.env)).any (·.1.isNone)) = false := by rfl) : PE X (.Call (.Name x p) (e :: es) kws pos) (tCallP n ks.length perm sp E tv tz) := by
  constructor
  intro pins s σ H Q J hq
  refine wpAny_Call_Name_kw (ld_glob J hg hm ?_ hdb)
  refine PySem.W.callWith_KW (h₀ := X.base) J.ok.mod.kin hk hall (thn (ha.run pos pins s σ H _ J hq) fun us sa ⟨vs, Ha, Ja, ra, qa⟩ => thn (hkw.run pos pins sa σ Ha _ Ja qa) fun ws sb ⟨zs, Hb, Jb, rb, l1, l2, qb⟩ => ⟨Jb.kIn, ?_⟩) hpl he
  rw [hks]
  exact run_fnP F hr hb (hx σ) Jb ra rb l1 l2 qb
theorem pe_callP0 {perm : List Nat} {sp : Sp} {E : L2.St → XK} {tz : TA} (F : FnOk X.prog X.w X.K X.mg X.base (L2.CX X.prog X.w) k f fd ps sp) (hr : Room k X.A) (hg : Gl X x) (hm : X.mg x = some (.ref f)) (hk : PySem.W.keepIn X.K (.ref f) = true) (hb : KB fd ps 0 ks perm) (hx : ∀ σ, PassesAt (L2.CX X.prog X.w) X σ (E σ))
    (hkw : PK X kws tz) (hall : (backToKw pos (keywordEach kws X.env)).all (·.1.isSome) = true := by rfl) (hks : (backToKw pos (keywordEach kws X.env)).filterMap (·.1) = ks := by rfl) (hdb : (x == ("__debug__" : Str)) = false := by decide)
    (hpl : ((backTo pos (starEach [] X.env)).any (·.1) || (backToKw pos (keywordEach kws X.env)).any (·.1.isNone)) = false := by rfl) : PE X (.Call (.Name x p) [] kws pos) (tCallP 0 ks.length perm sp E tNil tz) := by
  constructor
  intro pins s σ H Q J hq
  refine wpAny_Call_Name_kw (ld_glob J hg hm ?_ hdb)
  refine PySem.W.callWith_KW0 (h₀ := X.base) J.ok.mod.kin hk hall (thn (hkw.run pos pins s σ H _ J hq) fun ws sb ⟨zs, Hb, Jb, rb, l1, l2, qb⟩ => ⟨Jb.kIn, ?_⟩) hpl
  rw [hks]
  exact run_fnP (us := []) F hr hb (hx σ) Jb .nil rb l1 l2 qb
theorem j_callK {perm : List Nat} {np : Nat} (tk' : Takes X W) (F : FnOk X.prog X.w X.K X.mg X.base (L2.CX X.prog X.w) k f fd ps (spOf X.K np asp)) (hr : Room k X.A) (hg : Gl X x) (hm : X.mg x = some (.ref f)) (hk : PySem.W.keepIn X.K (.ref f) = true) (hb : KB fd ps n ks perm)
    (ha : JA X W (e :: es) t) (hkw : JK X W kws tk) (hall : (backToKw pos (keywordEach kws X.env)).all (·.1.isSome) = true := by rfl) (hks : (backToKw pos (keywordEach kws X.env)).filterMap (·.1) = ks := by rfl)
    (hdb : (x == ("__debug__" : Str)) = false := by decide) (he : starEach (e :: es) X.env = (false, eval e X.env) :: starEach es X.env := by rfl)
    (hpl : ((backTo pos (starEach (e :: es) X.env)).any (·.1) || (backToKw pos (keywordEach kws X.env)).any (·.1.isNone)) = false := by rfl) : JE X W (.Call (.Name x p) (e :: es) kws pos) (aCallK n ks.length perm np asp t tk) :=
  PE.imp (pe_callP F hr hg hm hk hb (fun σ => passAt tk' σ) ha hkw hall hks hdb he hpl) conc_callK
theorem j_callK0 {perm : List Nat} {np : Nat} (tk' : Takes X W) (F : FnOk X.prog X.w X.K X.mg X.base (L2.CX X.prog X.w) k f fd ps (spOf X.K np asp)) (hr : Room k X.A) (hg : Gl X x) (hm : X.mg x = some (.ref f)) (hk : PySem.W.keepIn X.K (.ref f) = true) (hb : KB fd ps 0 ks perm)
    (hkw : JK X W kws tk) (hall : (backToKw pos (keywordEach kws X.env)).all (·.1.isSome) = true := by rfl) (hks : (backToKw pos (keywordEach kws X.env)).filterMap (·.1) = ks := by rfl) (hdb : (x == ("__debug__" : Str)) = false := by decide)
    (hpl : ((backTo pos (starEach [] X.env)).any (·.1) || (backToKw pos (keywordEach kws X.env)).any (·.1.isNone)) = false := by rfl) : JE X W (.Call (.Name x p) [] kws pos) (aCallK 0 ks.length perm np asp aNil tk) :=
  PE.imp (pe_callP0 F hr hg hm hk hb (fun σ => passAt tk' σ) hkw hall hks hdb hpl) fun σ H Q h => by
    obtain ⟨αs, S, QA, XA, R, h, q, xo⟩ := h
    exact conc_callK (t := aNil) (tk := tk) σ H Q ⟨αs, S, QA, XA, R, h, q, xo⟩ |> fun z => by
      obtain ⟨αs, S, QA, XA, R, h, q, xo⟩ := z
      exact q αs [] H [] S R R.ext0 .nil h
end

/-! ### a def keeps its promise -/
/-! what may be kept of a value and the store behind a def: new live things are frozen, dropped -/
mutual
inductive Fz (st : Store) (n : Nat) : D → D → Prop
  | non : Fz st n .non .non
  | bl (b : Bool) : Fz st n (.bl b) (.bl b)
  | int (i : Int) : Fz st n (.int i) (.int i)
  | str (x : Str) : Fz st n (.str x) (.str x)
  | scr (ns : List Int) : Fz st n (.scr ns) (.scr ns)
  | adr (a : Addr) : Fz st n (.adr a) (.adr a)
  | ty (x : String) : Fz st n (.ty x) (.ty x)
  | tup {xs ys : List D} : FzAll st n xs ys → Fz st n (.tup xs) (.tup ys)
  | lst {xs ys : List D} : FzAll st n xs ys → Fz st n (.lst xs) (.lst ys)
  | old {m : Nat} : m < n → Fz st n (.ref m) (.ref m)
  | new {m : Nat} {xs ys : List D} : n ≤ m → st[m]? = some (.lst xs) → FzAll st n xs ys → Fz st n (.ref m) (.lst ys)
  | ins {C : Addr} {fs gs : List (Str × D)} : FzFs st n fs gs → Fz st n (.ins C fs) (.ins C gs)
  | newI {m : Nat} {C : Addr} {fs gs : List (Str × D)} : n ≤ m → st[m]? = some (.ins C fs) → FzFs st n fs gs → Fz st n (.ref m) (.ins C gs)
  | dk {xs ys : List (Key × D)} : FzKs st n xs ys → Fz st n (.dk xs) (.dk ys)
  | newK {m : Nat} {xs ys : List (Key × D)} : n ≤ m → st[m]? = some (.dk xs) → FzKs st n xs ys → Fz st n (.ref m) (.dk ys)
  | exc {a : Addr} {cls : Value} {dd : Option Addr} {fs gs : List (Str × D)} : FzFs st n fs gs → Fz st n (.exc a cls dd fs) (.exc a cls dd gs)
inductive FzKs (st : Store) (n : Nat) : List (Key × D) → List (Key × D) → Prop
  | nil : FzKs st n [] []
  | cons {f : Key} {x y : D} {xs ys : List (Key × D)} : Fz st n x y → FzKs st n xs ys → FzKs st n ((f, x) :: xs) ((f, y) :: ys)
inductive FzAll (st : Store) (n : Nat) : List D → List D → Prop
  | nil : FzAll st n [] []
  | cons {x y : D} {xs ys : List D} : Fz st n x y → FzAll st n xs ys → FzAll st n (x :: xs) (y :: ys)
inductive FzFs (st : Store) (n : Nat) : List (Str × D) → List (Str × D) → Prop
  | nil : FzFs st n [] []
  | cons {f : Str} {x y : D} {xs ys : List (Str × D)} : Fz st n x y → FzFs st n xs ys → FzFs st n ((f, x) :: xs) ((f, y) :: ys)
end
def Al.cut (αs : Al) (n : Nat) : Al := ⟨αs.l.take n, αs.h⟩
section
variable {K : PySem.W.Frag} {αs αs' : Al} {st st' : Store} {H H' : Hp} {n : Nat}
theorem lv_cut {a : Addr} (h : Lv (αs.cut n) (st.take n) a) : Lv αs st a := by
  rcases h with ⟨m, o, h1, h2, h3⟩ | h
  · have h1 : (αs.l.take n)[m]? = some a := h1
    have hm : m < n := by
      have := (List.getElem?_eq_some_iff.mp h1).1
      rw [List.length_take] at this
      omega
    rw [List.getElem?_take_of_lt hm] at h1 h2
    exact .inl ⟨m, o, h1, h2, h3⟩
  · exact .inr h
theorem cut_live {m : Nat} {a : Addr} (s : SRel K αs st H) (hm : n ≤ m) (ha : αs.l[m]? = some a) : ¬ Lv (αs.cut n) (st.take n) a := fun h => by
  rcases h with ⟨j, o, h1, h2, h3⟩ | h
  · have h1 : (αs.l.take n)[j]? = some a := h1
    have hj : j < n := by
      have := (List.getElem?_eq_some_iff.mp h1).1
      rw [List.length_take] at this
      omega
    rw [List.getElem?_take_of_lt hj] at h1
    have z1 := List.getElem?_eq_some_iff.mp h1
    have z2 := List.getElem?_eq_some_iff.mp ha
    have := (List.getElem_inj s.nd).mp (z1.2.trans z2.2.symm)
    omega
  · exact (s.hid a h).1 (List.mem_of_getElem? ha)
mutual
theorem Fz.ok (s : SRel K αs st H) : ∀ {v : V} {d d' : D}, Rp K αs (Lv αs st) H v d → Fz st n d d' → Rp K (αs.cut n) (Lv (αs.cut n) (st.take n)) H v d'
  | _, _, _, .non, .non => .non
  | _, _, _, .bl _, .bl b => .bl b
  | _, _, _, .int _, .int i => .int i
  | _, _, _, .str _, .str x => .str x
  | _, _, _, .scr h, .scr _ => .scr (h.imp (fun z => ⟨z.1, fun l => z.2 (lv_cut l)⟩) fun z => z)
  | _, _, _, .adr _, .adr a => .adr a
  | _, _, _, .ty _, .ty x => .ty x
  | _, _, _, .tup h t, .tup f => .tup h (FzAll.ok s t f)
  | _, _, _, .lst h nl t, .lst f => .lst h (fun l => nl (lv_cut l)) (FzAll.ok s t f)
  | _, _, _, .ref h, .old hm => .ref (by show (αs.l.take n)[_]? = _; rw [List.getElem?_take_of_lt hm]; exact h)
  | _, _, _, .ref h, .new hm hs f => by
    obtain ⟨vs, e1, e2⟩ := s.obj _ _ _ hs h
    exact .lst e1 (cut_live s hm h) (FzAll.ok s e2 f)
  | _, _, _, .ins h nl t, .ins f => .ins h (fun l => nl (lv_cut l)) (FzFs.ok s t f)
  | _, _, _, .ref h, .newI hm hs f => by
    obtain ⟨dx, fs, e1, e2⟩ := s.obj _ _ _ hs h
    exact .ins e1 (cut_live s hm h) (FzFs.ok s e2 f)
  | _, _, _, .dk h nl t, .dk f => .dk h (fun l => nl (lv_cut l)) (FzKs.ok s t f)
  | _, _, _, .ref h, .newK hm hs f => by
    obtain ⟨vs, e1, e2⟩ := s.obj _ _ _ hs h
    exact .dk e1 (cut_live s hm h) (FzKs.ok s e2 f)
  | _, _, _, .exc h t, .exc f => .exc h (FzFs.ok s t f)
  | _, _, _, .exc0, .exc .nil => .exc0
theorem FzKs.ok (s : SRel K αs st H) : ∀ {vs : List (Key × V)} {ds ds' : List (Key × D)}, RpKs K αs (Lv αs st) H vs ds → FzKs st n ds ds' → RpKs K (αs.cut n) (Lv (αs.cut n) (st.take n)) H vs ds'
  | _, _, _, .nil, .nil => .nil
  | _, _, _, .cons r t, .cons f g => .cons (Fz.ok s r f) (FzKs.ok s t g)
theorem FzAll.ok (s : SRel K αs st H) : ∀ {vs : List V} {ds ds' : List D}, RpAll K αs (Lv αs st) H vs ds → FzAll st n ds ds' → RpAll K (αs.cut n) (Lv (αs.cut n) (st.take n)) H vs ds'
  | _, _, _, .nil, .nil => .nil
  | _, _, _, .cons r t, .cons f g => .cons (Fz.ok s r f) (FzAll.ok s t g)
theorem FzFs.ok (s : SRel K αs st H) : ∀ {vs : List (Str × V)} {ds ds' : List (Str × D)}, RpFs K αs (Lv αs st) H vs ds → FzFs st n ds ds' → RpFs K (αs.cut n) (Lv (αs.cut n) (st.take n)) H vs ds'
  | _, _, _, .nil, .nil => .nil
  | _, _, _, .cons r t, .cons f g => .cons (Fz.ok s r f) (FzFs.ok s t g)
end
/-- nothing of the store's object points to what is dropped -/
def FzO (st : Store) (n : Nat) : SO → Prop
  | .lst ds => FzAll st n ds ds
  | .ins _ gs => FzFs st n gs gs
  | .dk ds => FzKs st n ds ds
  | .gone => True
mutual
theorem Rp.fz {L : Addr → Prop} (hn : αs.l.length ≤ n) : ∀ {v : V} {d : D}, Rp K αs L H v d → Fz st' n d d
  | _, _, .non => .non
  | _, _, .bl b => .bl b
  | _, _, .int i => .int i
  | _, _, .str x => .str x
  | _, _, .tup _ t => .tup (RpAll.fz hn t)
  | _, _, .lst _ _ t => .lst (RpAll.fz hn t)
  | _, _, .scr _ => .scr _
  | _, _, .dk _ _ t => .dk (RpKs.fz hn t)
  | _, _, .ref h => .old (by have := (List.getElem?_eq_some_iff.mp h).1; omega)
  | _, _, .ins _ _ t => .ins (RpFs.fz hn t)
  | _, _, .adr a => .adr a
  | _, _, .ty x => .ty x
  | _, _, .exc _ t => .exc (RpFs.fz hn t)
  | _, _, .exc0 => .exc .nil
theorem RpAll.fz {L : Addr → Prop} (hn : αs.l.length ≤ n) : ∀ {vs : List V} {ds : List D}, RpAll K αs L H vs ds → FzAll st' n ds ds
  | _, _, .nil => .nil
  | _, _, .cons r t => .cons (Rp.fz hn r) (RpAll.fz hn t)
theorem RpKs.fz {L : Addr → Prop} (hn : αs.l.length ≤ n) : ∀ {vs : List (Key × V)} {ds : List (Key × D)}, RpKs K αs L H vs ds → FzKs st' n ds ds
  | _, _, .nil => .nil
  | _, _, .cons r t => .cons (Rp.fz hn r) (RpKs.fz hn t)
theorem RpFs.fz {L : Addr → Prop} (hn : αs.l.length ≤ n) : ∀ {vs : List (Str × V)} {ds : List (Str × D)}, RpFs K αs L H vs ds → FzFs st' n ds ds
  | _, _, .nil => .nil
  | _, _, .cons r t => .cons (Rp.fz hn r) (RpFs.fz hn t)
end
/-- the store's old part, as it may be told -/
def Kept (st0 st : Store) : Prop := st0.length ≤ st.length ∧ ∀ m, m < st0.length → st[m]? = st0[m]? ∨ ∃ o, st[m]? = some o ∧ FzO st st0.length o
theorem OR.fz {a : Addr} (s : SRel K αs st H) : ∀ {o : SO}, OR K αs (Lv αs st) H a o → FzO st n o → OR K (αs.cut n) (Lv (αs.cut n) (st.take n)) H a o
  | .lst _, ⟨vs, e, r⟩, f => ⟨vs, e, FzAll.ok s r f⟩
  | .dk _, ⟨vs, e, r⟩, f => ⟨vs, e, FzKs.ok s r f⟩
  | .ins _ _, ⟨dx, fs, e, r⟩, f => ⟨dx, fs, e, FzFs.ok s r f⟩
  | .gone, _, _ => True.intro
variable {αs0 : Al} {st0 : Store} {H0 : Hp}
theorem cut_ok (s0 : SRel K αs0 st0 H0) (s : SRel K αs st H) (x : Ext αs0 st0 H0 αs st H) (k : Kept st0 st) : SRel K (αs.cut st0.length) (st.take st0.length) H ∧ Ext αs0 st0 H0 (αs.cut st0.length) (st.take st0.length) H := by
  have hlen : st0.length ≤ st.length := k.1
  have la : αs.l.length = st.length := s.len
  have l0 : αs0.l.length = st0.length := s0.len
  have at_ : ∀ {m : Nat} {a : Addr}, (αs.cut st0.length).l[m]? = some a → m < st0.length ∧ αs.l[m]? = some a := fun {m a} e => by
    have e : (αs.l.take st0.length)[m]? = some a := e
    have hm := (List.getElem?_eq_some_iff.mp e).1
    rw [List.length_take] at hm
    have hm : m < st0.length := by omega
    rw [List.getElem?_take_of_lt hm] at e
    exact ⟨hm, e⟩
  refine ⟨⟨?_, ?_, fun m o a h1 h2 => ?_, fun a h => s.trk a (List.mem_of_mem_take h), fun a h => ⟨fun z => (s.hid a h).1 (List.mem_of_mem_take z), (s.hid a h).2⟩⟩, ?_⟩
  · show (αs.l.take _).length = _
    rw [List.length_take, List.length_take, la]
  · exact s.nd.sublist (List.take_sublist _ _)
  · obtain ⟨hm, h2⟩ := at_ h2
    rw [List.getElem?_take_of_lt hm] at h1
    refine OR.fz s (s.obj m o a h1 h2) ?_
    rcases k.2 m hm with e | ⟨o', e, f⟩
    · rw [h1] at e
      have e1 : αs0.l[m]? = some αs0.l[m] := List.getElem?_eq_getElem (by omega)
      have q := s0.obj m o _ e.symm e1
      cases o with
      | lst ds => obtain ⟨vs, _, r⟩ := q; exact r.fz (by omega)
      | dk ds => obtain ⟨vs, _, r⟩ := q; exact r.fz (by omega)
      | ins C gs => obtain ⟨dx, fs, _, r⟩ := q; exact r.fz (by omega)
      | gone => exact True.intro
    · rw [h1] at e
      cases e
      exact f
  · refine ⟨fun m a e => ?_, x.hid, x.hkeep, ?_, fun m e => ?_, fun m a hm e => ?_, x.keep, x.trk⟩
    · show (αs.l.take _)[m]? = _
      have := (List.getElem?_eq_some_iff.mp e).1
      rw [List.getElem?_take_of_lt (by omega)]
      exact x.pre m a e
    · rw [List.length_take]; omega
    · have := (List.getElem?_eq_some_iff.mp e).1
      rw [List.getElem?_take_of_lt (by omega)]
      exact x.dead m e
    · have := (at_ e).1
      omega
end

/-- a def's end: as it is, or cut -/
def RetQ (st0 : Store) (QA : D → Store → Prop) (d : D) (st : Store) : Prop := QA d st ∨ ∃ d', Fz st st0.length d d' ∧ Kept st0 st ∧ QA d' (st.take st0.length)
def RaiQ (st0 : Store) (EA : XD → Store → Prop) (x : XD) (st : Store) : Prop := EA x st ∨ ∃ gs, FzFs st st0.length x.fs gs ∧ Kept st0 st ∧ EA ⟨x.cls, gs⟩ (st.take st0.length)
def start (n : Nat) (ds : List D) : List (Option D) := ds.map some ++ List.replicate (n - ds.length) none
/-- what a def's body is to show -/
def bodyK (st0 : Store) (QA : D → Store → Prop) (EA : XD → Store → Prop) : AK where
  nx := fun S => RetQ st0 QA .non S.st
  rt := fun d S => RetQ st0 QA d S.st
  bk := fun _ => False
  ct := fun _ => False
  xe := fun x S => RaiQ st0 EA x S.st
section
variable {P : Program} {w : World} {K : PySem.W.Frag} {mg : Str → Option Value} {base : Heap}
theorem start_get {n i : Nat} {ds : List D} {d : D} (h : (start n ds)[i]? = some (some d)) : ds[i]? = some d := by
  unfold start at h
  by_cases hi : i < ds.length
  · rw [List.getElem?_append_left (by simpa using hi), List.getElem?_map] at h
    cases e : ds[i]? with
    | none => rw [e] at h; cases h
    | some a => rw [e] at h; simp at h; rw [h]
  · rw [List.getElem?_append_right (by simpa using hi), List.getElem?_replicate] at h
    split at h <;> cases h
theorem fnOk {x qual : Str} {st : Stmt} {f : Addr} {fd : FuncData} {N ps : List Str} {k : Nat} {asp : ASp} (F : Fun K x qual st f fd) (S : FnScope N ps (defScope st)) {t : AT}
    (hb : ∀ (cdv : Value) (A : Around) (outer : List Env) (s : Shared) (H : Hp) (E : XK), Room k (A.deeper (envOfC qual (defScope st) s.heap.objs.size f cdv)) →
      JSs (cxOf (L2.CX P w) P w K mg base N qual (defScope st) f cdv A outer s H E) (fun cls d _ H' => E cls d H') (defBody st) t)
    (ht : ∀ ds st0 QA EA, ds.length = ps.length → asp ds st0 QA EA → t (bodyK st0 QA EA) ⟨start N.length ds, st0⟩) : FnOk P w K mg base (L2.CX P w) (k + 1) f fd ps (spOf K ps.length asp) := by
  refine F.okX S spOf_len fun cdv A outer s H vs Q E hr h => ⟨_, hb cdv A outer s H E hr, ?_⟩
  obtain ⟨αs, st0, ds, QA, EA, hl, sr, rv, h, z, y⟩ := h
  have hNl : ps.length ≤ N.length := by
    have := congrArg List.length S.pre
    rw [List.length_take] at this
    omega
  refine ⟨αs, ⟨start N.length ds, st0⟩, bodyK st0 QA EA, ⟨sr, ?_, fun i d e => ?_⟩, ht ds st0 QA EA hl h, ?_⟩
  · show (L2.start N vs).length = (start N.length ds).length
    unfold L2.start start
    simp [rv.length]
  · have e := start_get e
    obtain ⟨v, e1, e2⟩ := rv.get e
    refine ⟨v, ?_, e2⟩
    unfold L2.start
    rw [List.getElem?_append_left (by rw [List.length_map]; exact (List.getElem?_eq_some_iff.mp e1).1), List.getElem?_map, e1]
    rfl
  · have ret : ∀ {αs' : Al} {σ' : L2.St} {v : V} {H' : Hp} {d : D} {S' : AS}, Rel K αs' σ' H' S' → Ext αs st0 H αs' S'.st H' → Rp K αs' (Lv αs' S'.st) H' v d → RetQ st0 QA d S'.st → Q v H' := fun {αs' σ' v H' d S'} R e r q => by
      rcases q with q | ⟨d', f, k, q⟩
      · exact z αs' v H' d S'.st R.s e r q
      · obtain ⟨s2, e2⟩ := cut_ok sr R.s e k
        exact z _ v H' d' _ s2 e2 (Fz.ok R.s r f) q
    refine ⟨fun αs' σ' H' S' R e q => ret R e .non q, fun αs' σ' v H' d S' R e r q => ret R e r q, fun _ _ _ _ _ _ q => q, fun _ _ _ _ _ _ q => q, fun αs' σ' H' S' cls dd gs R e xr q => ?_⟩
    rcases q with q | ⟨gs', f, k, q⟩
    · exact y αs' H' S'.st cls dd gs R.s e xr q
    · obtain ⟨s2, e2⟩ := cut_ok sr R.s e k
      refine y _ H' _ cls dd gs' s2 e2 ?_ q
      cases dd with
      | none =>
        have xr : gs = [] := xr
        subst xr
        cases f
        rfl
      | some d =>
        obtain ⟨fs, e1, r⟩ := xr
        exact ⟨fs, e1, FzFs.ok R.s r f⟩
end
end Ab
set_option Elab.async false
set_option linter.all false
set_option maxRecDepth 100000
set_option autoImplicit false
/-! Built-ins, methods of lists, raise, try. -/
namespace Ab
open PySem PySem.Spec PyProof.Rows L2

/-! ### built-ins -/
section
variable {K : PySem.W.Frag} {X : Cx}
/-- one int / two ints -/
def n1 (g : Int → D) : AN := fun ds st Q => match ds with
  | [.int i] => Q (g i) st
  | _ => False
def n2 (g : Int → Int → D) : AN := fun ds st Q => match ds with
  | [.int i, .int j] => Q (g i j) st
  | _ => False
def absA : AN := n1 fun i => .int i.natAbs
def gcdA : AN := n2 fun i j => .int (Nat.gcd i.natAbs j.natAbs : Nat)
theorem abs_ite (i : Int) : (if i < 0 then -i else i) = (i.natAbs : Int) := by split <;> omega
theorem rs_abs : RSN K (fun xs H Q => ∃ i, xs = [.int i] ∧ Q (.int (if i < 0 then -i else i)) H) absA := fun αs st H xs ds Q QA s r h z => by
  cases r with
  | nil => exact h.elim
  | cons r1 rr =>
    cases rr with
    | cons _ _ => unfold absA n1 at h; split at h <;> first | exact h.elim | (rename_i e; cases e)
    | nil =>
      unfold absA n1 at h
      split at h
      · rename_i e
        cases e
        cases r1
        exact ⟨_, rfl, by rw [abs_ite]; exact z.here s (.int _) h⟩
      · exact h.elim
theorem rp1 {αs : Al} {L : Addr → Prop} {H : Hp} {xs : List V} {d : D} (r : RpAll K αs L H xs [d]) : ∃ v, xs = [v] ∧ Rp K αs L H v d := by
  cases r with
  | cons r1 rr => cases rr; exact ⟨_, rfl, r1⟩
theorem rp2 {αs : Al} {L : Addr → Prop} {H : Hp} {xs : List V} {d e : D} (r : RpAll K αs L H xs [d, e]) : ∃ v w, xs = [v, w] ∧ Rp K αs L H v d ∧ Rp K αs L H w e := by
  cases r with
  | cons r1 rr =>
    cases rr with
    | cons r2 r0 => cases r0; exact ⟨_, _, rfl, r1, r2⟩
theorem rs_n2 {g : Int → Int → D} {gv : Int → Int → V} (hg : ∀ i j αs L H, Rp K αs L H (gv i j) (g i j)) : RSN K (fun xs H Q => ∃ i j, xs = [.int i, .int j] ∧ Q (gv i j) H) (n2 g) := fun αs st H xs ds Q QA s r h z => by
  unfold n2 at h
  split at h
  · obtain ⟨v, w, e, r1, r2⟩ := rp2 r
    subst e
    cases r1
    cases r2
    exact ⟨_, _, rfl, z.here s (hg _ _ _ _ _) h⟩
  · exact h.elim
theorem rs_gcd : RSN K rGcd gcdA := rs_n2 fun i j _ _ _ => .int _
def max2A : AN := n2 fun i j => .int (max i j)
def min2A : AN := n2 fun i j => .int (min i j)
theorem rs_max2 : RSN K (fun xs H Q => ∃ i j, xs = [.int i, .int j] ∧ Q (.int (if j > i then j else i)) H) max2A :=
  rs_n2 fun i j _ _ _ => by
    have e : (if j > i then j else i) = max i j := by split <;> omega
    rw [e]; exact .int _
theorem rs_min2 : RSN K (fun xs H Q => ∃ i j, xs = [.int i, .int j] ∧ Q (.int (if j < i then j else i)) H) min2A :=
  rs_n2 fun i j _ _ _ => by
    have e : (if j < i then j else i) = min i j := by split <;> omega
    rw [e]; exact .int _
def intA : AN := fun ds st Q => match ds with
  | [.int i] => Q (.int i) st
  | [.bl b] => Q (.int (if b then 1 else 0)) st
  | [.str x] => ∃ n, PySem.intText? x = some n ∧ x.length ≤ 640 ∧ Q (.int n) st
  | _ => False
def rIntZ : List V → Hp → VK → Prop := fun xs H Q => ((∃ i, xs = [.int i] ∧ Q (.int i) H) ∨ ∃ k, xs = [.bl k] ∧ Q (.int (if k then 1 else 0)) H) ∨ ∃ a n, xs = [.str a] ∧ PySem.intText? a = some n ∧ a.length ≤ 640 ∧ Q (.int n) H
theorem call_intZ : CallR X (.type "int") rIntZ := call_int1.or call_int_str
theorem rs_int : RSN K rIntZ intA := fun αs st H xs ds Q QA s r h z => by
  unfold intA at h
  split at h
  · obtain ⟨v, e, r1⟩ := rp1 r
    subst e; cases r1
    exact .inl (.inl ⟨_, rfl, z.here s (.int _) h⟩)
  · obtain ⟨v, e, r1⟩ := rp1 r
    subst e; cases r1
    exact .inl (.inr ⟨_, rfl, z.here s (.int _) h⟩)
  · obtain ⟨v, e, r1⟩ := rp1 r
    subst e; cases r1
    obtain ⟨n, h1, h2, h3⟩ := h
    exact .inr ⟨_, n, rfl, h1, h2, z.here s (.int _) h3⟩
  · exact h.elim
def strA : AN := fun ds st Q => match ds with
  | [.int i] => i.natAbs.log2 < 1920 ∧ Q (.str (toString i)) st
  | [.str x] => Q (.str x) st
  | _ => False
def rStrZ : List V → Hp → VK → Prop := fun xs H Q => (∃ i : Int, xs = [.int i] ∧ i.natAbs.log2 < 1920 ∧ Q (.str (toString i)) H) ∨ ∃ a, xs = [.str a] ∧ Q (.str a) H
theorem call_strZ : CallR X (.type "str") rStrZ := call_str_int.or SkE.call_str_str
theorem rs_str : RSN K rStrZ strA := fun αs st H xs ds Q QA s r h z => by
  unfold strA at h
  split at h
  · obtain ⟨v, e, r1⟩ := rp1 r
    subst e; cases r1
    exact .inl ⟨_, rfl, h.1, z.here s (.str _) h.2⟩
  · obtain ⟨v, e, r1⟩ := rp1 r
    subst e; cases r1
    exact .inr ⟨_, rfl, z.here s (.str _) h⟩
  · exact h.elim
def lenA : AN := fun ds st Q => match ds with
  | [.str x] => x.length ≤ sizeLine ∧ Q (.int x.length) st
  | [.dk kvs] => Q (.int kvs.length) st
  | [x] => ∃ xs, seqOf st x = some xs ∧ Q (.int xs.length) st
  | _ => False
def rLenZ (K : PySem.W.Frag) : List V → Hp → VK → Prop := fun xs H Q => (∃ p ys, xs = [.ref p] ∧ (SqL K H p ys ∨ SqT K H p ys) ∧ Q (.int ys.length) H) ∨ (∃ z, xs = [.str z] ∧ z.length ≤ sizeLine ∧ Q (.int z.length) H) ∨ ∃ a kvs, xs = [V.ref a] ∧ H a = some (.dK kvs) ∧ Q (.int kvs.length) H
theorem call_lenZ : CallR X (.builtin "len") (rLenZ X.K) := call_len_seq.or (call_len_str.or call_lenD)
theorem RpKs.length {αs : Al} {L : Addr → Prop} {H : Hp} : ∀ {vs : List (Key × V)} {ds : List (Key × D)}, RpKs K αs L H vs ds → vs.length = ds.length
  | _, _, .nil => rfl
  | _, _, .cons _ t => by rw [List.length_cons, List.length_cons, RpKs.length t]
theorem rs_len : RSN K (rLenZ K) lenA := fun αs st H xs ds Q QA s r h z => by
  unfold lenA at h
  split at h
  · obtain ⟨v, e, r1⟩ := rp1 r
    subst e; cases r1
    exact .inr (.inl ⟨_, rfl, h.1, z.here s (.int _) h.2⟩)
  · obtain ⟨v, e, r1⟩ := rp1 r
    subst e
    cases r1 with
    | @dk a vs _ e1 n1 r1 => exact .inr (.inr ⟨a, vs, rfl, e1, by rw [r1.length]; exact z.here s (.int _) h⟩)
  · obtain ⟨v, e, r1⟩ := rp1 r
    subst e
    obtain ⟨ys, h1, h2⟩ := h
    obtain ⟨a, vs, e1, e2, e3⟩ := seqOf_ok s r1 h1
    subst e1
    exact .inl ⟨a, vs, rfl, e2, by rw [e3.length]; exact z.here s (.int _) h2⟩
  · exact h.elim
/-- lists alone -/
def lsqOf (st : Store) : D → Option (List D)
  | .scr ns => some (ns.map D.int)
  | d => lstOf st d
theorem lsqOf_ok {αs : Al} {st : Store} {H : Hp} {v : V} {d : D} {xs : List D} (s : SRel K αs st H) (r : Rp K αs (Lv αs st) H v d) (h : lsqOf st d = some xs) : ∃ a vs, v = .ref a ∧ SqL K H a vs ∧ RpAll K αs (Lv αs st) H vs xs := by
  cases d with
  | scr ns =>
    simp only [lsqOf, Option.some.injEq] at h
    subst h
    cases r with
    | scr e => exact ⟨_, _, rfl, e.imp (fun z => z.1) fun z => z, rpInts ns⟩
  | _ =>
    obtain ⟨a, vs, e1, e2, e3⟩ := lstOf_ok s r (show lstOf st _ = some xs from h)
    exact ⟨a, vs, e1, .inl (.inl e2), e3⟩
theorem rpInts_inv {αs : Al} {L : Addr → Prop} {H : Hp} : ∀ {ns : List Int} {vs : List V}, RpAll K αs L H vs (ns.map D.int) → vs = ns.map V.int
  | [], _, .nil => rfl
  | n :: ns, _, .cons r t => by
    cases r
    rw [rpInts_inv (ns := ns) t]
    rfl
theorem rpBls_inv {αs : Al} {L : Addr → Prop} {H : Hp} : ∀ {bs : List Bool} {vs : List V}, RpAll K αs L H vs (bs.map D.bl) → vs = bs.map V.bl
  | [], _, .nil => rfl
  | n :: ns, _, .cons r t => by
    cases r
    rw [rpBls_inv (bs := ns) t]
    rfl
def sumA : AN := fun ds st Q => ∃ x, ∃ ns : List Int, ds = [x] ∧ lsqOf st x = some (ns.map D.int) ∧ Q (.int ns.sum) st
theorem rs_sum : RSN K (rSum K) sumA := fun αs st H xs ds Q QA s r ⟨x, ns, h0, h1, h2⟩ z => by
  subst h0
  obtain ⟨v, e, r1⟩ := rp1 r
  subst e
  obtain ⟨a, vs, e1, e2, e3⟩ := lsqOf_ok s r1 h1
  subst e1
  rw [rpInts_inv e3] at e2
  exact ⟨a, ns, rfl, e2, z.here s (.int _) h2⟩
def maxA : AN := fun ds st Q => ∃ x, ∃ ns : List Int, ds = [x] ∧ lsqOf st x = some (ns.map D.int) ∧ 0 < ns.length ∧ ∀ m, m ∈ ns → (∀ y, y ∈ ns → y ≤ m) → Q (.int m) st
def minA : AN := fun ds st Q => ∃ x, ∃ ns : List Int, ds = [x] ∧ lsqOf st x = some (ns.map D.int) ∧ 0 < ns.length ∧ ∀ m, m ∈ ns → (∀ y, y ∈ ns → m ≤ y) → Q (.int m) st
theorem rs_max : RSN K (rMax K) maxA := fun αs st H xs ds Q QA s r ⟨x, ns, h0, h1, h2, h3⟩ z => by
  subst h0
  obtain ⟨v, e, r1⟩ := rp1 r
  subst e
  obtain ⟨a, vs, e1, e2, e3⟩ := lsqOf_ok s r1 h1
  subst e1
  rw [rpInts_inv e3] at e2
  exact ⟨a, ns, rfl, e2, h2, fun m a1 a2 => z.here s (.int _) (h3 m a1 a2)⟩
theorem rs_min : RSN K (rMin K) minA := fun αs st H xs ds Q QA s r ⟨x, ns, h0, h1, h2, h3⟩ z => by
  subst h0
  obtain ⟨v, e, r1⟩ := rp1 r
  subst e
  obtain ⟨a, vs, e1, e2, e3⟩ := lsqOf_ok s r1 h1
  subst e1
  rw [rpInts_inv e3] at e2
  exact ⟨a, ns, rfl, e2, h2, fun m a1 a2 => z.here s (.int _) (h3 m a1 a2)⟩
def allA : AN := fun ds st Q => ∃ x, ∃ bs : List Bool, ds = [x] ∧ lsqOf st x = some (bs.map D.bl) ∧ Q (.bl (bs.all id)) st
def anyA : AN := fun ds st Q => ∃ x, ∃ bs : List Bool, ds = [x] ∧ lsqOf st x = some (bs.map D.bl) ∧ Q (.bl (bs.any id)) st
theorem rs_all : RSN K (rAll K) allA := fun αs st H xs ds Q QA s r ⟨x, bs, h0, h1, h2⟩ z => by
  subst h0
  obtain ⟨v, e, r1⟩ := rp1 r
  subst e
  obtain ⟨a, vs, e1, e2, e3⟩ := lsqOf_ok s r1 h1
  subst e1
  rw [rpBls_inv e3] at e2
  exact ⟨a, bs, rfl, e2, z.here s (.bl _) h2⟩
theorem rs_any : RSN K (rAny K) anyA := fun αs st H xs ds Q QA s r ⟨x, bs, h0, h1, h2⟩ z => by
  subst h0
  obtain ⟨v, e, r1⟩ := rp1 r
  subst e
  obtain ⟨a, vs, e1, e2, e3⟩ := lsqOf_ok s r1 h1
  subst e1
  rw [rpBls_inv e3] at e2
  exact ⟨a, bs, rfl, e2, z.here s (.bl _) h2⟩
def tupleA : AN := fun ds st Q => match ds with
  | [x] => ∃ xs, seqOf st x = some xs ∧ Q (.tup xs) st
  | _ => False
def rTupZ (K : PySem.W.Frag) : List V → Hp → VK → Prop := fun xs H Q => ∃ p ys, xs = [.ref p] ∧ ((SqL K H p ys ∧ ∀ l, H l = none → Q (.ref l) (upd H l (.tup ys))) ∨ (SqT K H p ys ∧ Q (.ref p) H))
theorem call_tupZ : CallR X (.type "tuple") (rTupZ X.K) := call_tuple_of
theorem seqOf_ok2 {αs : Al} {st : Store} {H : Hp} {v : V} {d : D} {xs : List D} (s : SRel K αs st H) (r : Rp K αs (Lv αs st) H v d) (h : seqOf st d = some xs) : (lsqOf st d = some xs) ∨ d = .tup xs := by
  cases d with
  | tup ys => simp only [seqOf, Option.some.injEq] at h; subst h; exact .inr rfl
  | scr ns => exact .inl h
  | _ => exact .inl h
theorem rs_tuple : RSN K (rTupZ K) tupleA := fun αs st H xs ds Q QA s r h z => by
  unfold tupleA at h
  split at h
  · obtain ⟨v, e, r1⟩ := rp1 r
    subst e
    obtain ⟨ys, h1, h2⟩ := h
    rcases seqOf_ok2 s r1 h1 with h3 | h3
    · obtain ⟨a, vs, e1, e2, e3⟩ := lsqOf_ok s r1 h3
      subst e1
      exact ⟨a, vs, rfl, .inl ⟨e2, fun l hl => newT_ok s hl e3 h2 z⟩⟩
    · subst h3
      cases r1 with
      | @tup a vs _ e1 e3 => exact ⟨a, vs, rfl, .inr ⟨e1, z.here s (.tup e1 e3) h2⟩⟩
  · exact h.elim
def listA (b : Bool) : AN := fun ds st Q => match ds with
  | [x] => ∃ xs, seqOf st x = some xs ∧ newL b xs st Q
  | _ => False
def rLstZ (K : PySem.W.Frag) : List V → Hp → VK → Prop := fun xs H Q => ∃ p ys, xs = [.ref p] ∧ (SqL K H p ys ∨ SqT K H p ys) ∧ ∀ l, H l = none → Q (.ref l) (upd H l (.lst ys))
theorem call_lstZ : CallR X (.type "list") (rLstZ X.K) := call_list_of
theorem rs_list (b : Bool) : RSN K (rLstZ K) (listA b) := fun αs st H xs ds Q QA s r h z => by
  unfold listA at h
  split at h
  · obtain ⟨v, e, r1⟩ := rp1 r
    subst e
    obtain ⟨ys, h1, h2⟩ := h
    obtain ⟨a, vs, e1, e2, e3⟩ := seqOf_ok s r1 h1
    subst e1
    exact ⟨a, vs, rfl, e2, fun l hl => newL_ok s hl e3 h2 z⟩
  · exact h.elim

/-! ### isinstance, built-in classes -/
def tyName (st : Store) : D → Option String
  | .non => some "NoneType"
  | .bl _ => some "bool"
  | .int _ => some "int"
  | .str _ => some "str"
  | .tup _ => some "tuple"
  | .lst _ => some "list"
  | .scr _ => some "list"
  | .dk _ => some "dict"
  | .ref n => match st[n]? with
    | some (.lst _) => some "list"
    | some (.dk _) => some "dict"
    | _ => none
  | _ => none
def isiB (T n : String) : Bool := T == n || (T == "bool" && n == "int")
def isiNs : List String := ["int", "bool", "str", "tuple", "list", "dict"]
theorem isi_table : (["NoneType", "bool", "int", "str", "tuple", "list", "dict"].all fun T => isiNs.all fun n => kitB T n == some (isiB T n)) = true := by decide +kernel
theorem tyName_in {st : Store} {d : D} {T : String} (h : tyName st d = some T) : T ∈ ["NoneType", "bool", "int", "str", "tuple", "list", "dict"] := by
  cases d <;> simp only [tyName, Option.some.injEq] at h <;> first | (subst h; decide) | skip
  · split at h <;> first | (cases h; decide) | cases h
  all_goals cases h
theorem isi_kit {st : Store} {d : D} {T n : String} (h : tyName st d = some T) (hn : n ∈ isiNs) : kitB T n = some (isiB T n) := by
  have h1 := List.all_eq_true.mp isi_table T (tyName_in h)
  exact beq_iff_eq.mp (List.all_eq_true.mp h1 n hn)
theorem tyX_ok {αs : Al} {st : Store} {H : Hp} {v : V} {d : D} {T : String} (s : SRel K αs st H) (r : Rp K αs (Lv αs st) H v d) (h : tyName st d = some T) : TyX K H v (.type T) := by
  cases r with
  | non => cases h; exact .base .non
  | bl b => cases h; exact .base (.bl b)
  | int i => cases h; exact .base (.int i)
  | str x => cases h; exact .base (.str x)
  | tup e _ =>
    cases h
    rcases e with (e | ⟨o, e⟩) | ⟨o, its, n, e1, e2, _⟩
    · exact .base (.tup e)
    · exact .fTuple e
    · exact .kTuple e1 e2
  | lst e _ _ => cases h; exact .base (.lst e)
  | scr e =>
    cases h
    rcases e with ⟨e | ⟨o, e⟩, _⟩ | ⟨o, its, n, e1, e2, _⟩
    · exact .base (.lst e)
    · exact .base (.frz e)
    · exact .kList e1 e2
  | dk e _ _ => cases h; exact .base (.dK e)
  | ref e =>
    simp only [tyName] at h
    split at h
    · rename_i xs hx
      cases h
      obtain ⟨vs, e1, _⟩ := s.obj _ _ _ hx e
      exact .base (.lst e1)
    · rename_i xs hx
      cases h
      obtain ⟨vs, e1, _⟩ := s.obj _ _ _ hx e
      exact .base (.dK e1)
    · cases h
  | _ => cases h
def isiA : AN := fun ds st Q => match ds with
  | [x, .ty n] => ∃ T, tyName st x = some T ∧ n ∈ isiNs ∧ Q (.bl (isiB T n)) st
  | _ => False
theorem rs_isi : RSN K (rIsi K) isiA := fun αs st H xs ds Q QA s r h z => by
  unfold isiA at h
  split at h
  · rename_i x n
    obtain ⟨v, w, e, r1, r2⟩ := rp2 r
    subst e
    cases r2
    obtain ⟨T, h1, h2, h3⟩ := h
    exact ⟨v, _, _, _, _, rfl, .ty n, tyX_ok s r1 h1, kit_ty (isi_kit h1 h2), z.here s (.bl _) h3⟩
  · exact h.elim
end

/-! ### methods -/
def tyA (T : String) (st : Store) (x : D) : Prop := match x with
  | .str _ => T = "str"
  | .dk _ => T = "dict"
  | x => T = "list" ∧ ∃ xs, lsqOf st x = some xs
abbrev AM := D → List D → Store → (D → Store → Prop) → Prop
def aBM (T : String) (r : AM) (to : AE) (t : AA) : AE := fun S Q X => to S (fun x S1 => tyA T S1.st x ∧ t S1 (fun xs S2 => r x xs S2.st fun d st => Q d ⟨S2.σ, st⟩) X) X
def RSM (K : PySem.W.Frag) (r : V → List V → Hp → VK → Prop) (rA : AM) : Prop := ∀ αs st H x xs dx ds Q QA, SRel K αs st H → Rp K αs (Lv αs st) H x dx → RpAll K αs (Lv αs st) H xs ds → rA dx ds st QA → ZOk K αs st H QA Q → r x xs H Q
section
variable {X : Cx} {W : WX} {o e : Expr} {es : List Expr} {to : AE} {t : AA} {name : Str} {apos cpos : Pos} {T id : String} {r : V → List V → Hp → VK → Prop} {rA : AM} {K : PySem.W.Frag}
theorem tyA_ok {αs : Al} {st : Store} {H : Hp} {v : V} {d : D} (s : SRel K αs st H) (rv : Rp K αs (Lv αs st) H v d) (h : tyA T st d) : tyV K T v H := by
  have lists : (T = "list" ∧ ∃ xs, lsqOf st d = some xs) → tyV K T v H := fun ⟨h1, xs, h2⟩ => by
    obtain ⟨a, vs, e1, e2, _⟩ := lsqOf_ok s rv h2
    subst e1
    exact .inl ⟨h1, vs, e2⟩
  cases d with
  | str x => cases rv; exact h
  | dk kvs =>
    cases rv with
    | dk e _ _ => exact .inr (.inr (.inl ⟨h, .inl ⟨_, e⟩⟩))
  | _ => exact lists h
theorem j_bm (pa : PlainAttrs T) (slot : Slot T name id) (hty : typeOf (.builtin id) = pure (.type "method_descriptor")) (hm : MtR X id r) (hr : RSM X.K r rA) (ho : JE X W o to) (ha : JA X W (e :: es) t)
    (hbase : attributeBase o name X.env (eval o X.env) = eval o X.env := by rfl)
    (hfew : ((backTo cpos (starEach (e :: es) X.env)).all (fun x => !x.1) && (backToKw cpos (keywordEach [] X.env)).all (fun x => x.1.isSome)
      && decide ((e :: es).length + ([] : List Keyword).length + (if ([] : List Keyword).isEmpty then 0 else 1) < 30)) = true := by rfl)
    (hline : (apos.endLine == cpos.line) = true := by rfl) (hs : starEach (e :: es) X.env = (false, eval e X.env) :: starEach es X.env := by rfl) (hplain : (backTo cpos (starEach es X.env)).any (·.1) = false := by rfl) :
    JE X W (.Call (.Attribute o name apos) (e :: es) [] cpos) (aBM T rA to t) :=
  PE.imp (pe_bm pa slot hty hm ho ha hbase hfew hline hs hplain) fun σ H Q ⟨αs, S, QA, XA, R, h, q, xo⟩ => by
    refine ⟨αs, S, _, XA, R, h, fun αs1 v H1 d S1 R1 e1 rv ⟨hty, h1⟩ => ⟨tyA_ok R1.s rv hty, ?_⟩, xo⟩
    refine ⟨αs1, S1, _, XA, R1, h1, fun αs2 ws H2 ds S2 R2 e2 rw h2 => ?_, xo.on R R1 e1⟩
    exact hr αs2 S2.st H2 v ws d ds Q _ R2.s (rv.mono (e2.carry R1.s)) rw h2 (ZOk.of q R R2 (e1.trans R.s e2 R1.s))
theorem j_bm0 (pa : PlainAttrs T) (slot : Slot T name id) (hty : typeOf (.builtin id) = pure (.type "method_descriptor")) (hm : MtR X id r) (hr : RSM X.K r rA) (ho : JE X W o to)
    (hbase : attributeBase o name X.env (eval o X.env) = eval o X.env := by rfl) (hline : (apos.endLine == cpos.line) = true := by rfl) : JE X W (.Call (.Attribute o name apos) [] [] cpos) (aBM T rA to aNil) :=
  PE.imp (pe_bm0 pa slot hty hm ho hbase hline) fun σ H Q ⟨αs, S, QA, XA, R, h, q, xo⟩ => by
    refine ⟨αs, S, _, XA, R, h, fun αs1 v H1 d S1 R1 e1 rv ⟨hty, h1⟩ => ⟨tyA_ok R1.s rv hty, ?_⟩, xo⟩
    exact hr αs1 S1.st H1 v [] d [] Q _ R1.s rv .nil h1 (ZOk.of q R R1 e1)
def appendA : AM := fun x ds st Q => match x, ds with
  | .ref n, [d] => ∃ xs, st[n]? = some (.lst xs) ∧ xs.length < sizeLine ∧ Q .non (st.set n (.lst (xs ++ [d])))
  | _, _ => False
theorem rs_append : RSM K rAppend appendA := fun αs st H x xs dx ds Q QA s rx r h z => by
  unfold appendA at h
  split at h
  · obtain ⟨ys, h1, h2, h3⟩ := h
    obtain ⟨v, e, r1⟩ := rp1 r
    subst e
    obtain ⟨a, vs, e1, e2, l, e3, r3⟩ := live_ok s rx h1
    exact ⟨a, vs, v, e1, rfl, e3, by rw [r3.length]; exact h2, live_set s e2 l (r3.append (.cons r1 .nil)) .non h3 z⟩
  · exact h.elim
def extendA : AM := fun x ds st Q => match x, ds with
  | .ref n, [d] => ∃ xs ys, st[n]? = some (.lst xs) ∧ lstOf st d = some ys ∧ xs.length + ys.length ≤ sizeLine ∧ Q .non (st.set n (.lst (xs ++ ys)))
  | _, _ => False
theorem rs_extend : RSM K rExtend extendA := fun αs st H x xs dx ds Q QA s rx r h z => by
  unfold extendA at h
  split at h
  · obtain ⟨ys, zs, h1, h2, h3, h4⟩ := h
    obtain ⟨v, e, r1⟩ := rp1 r
    subst e
    obtain ⟨a, vs, e1, e2, l, e3, r3⟩ := live_ok s rx h1
    obtain ⟨b, ws, e4, e5, r4⟩ := lstOf_ok s r1 h2
    subst e4
    exact ⟨a, b, vs, ws, e1, rfl, e3, e5, by rw [r3.length, r4.length]; exact h3, live_set s e2 l (r3.append r4) .non h4 z⟩
  · exact h.elim
def popA : AM := fun x ds st Q => match x, ds with
  | .ref n, [] => ∃ xs y, st[n]? = some (.lst xs) ∧ xs[xs.length - 1]? = some y ∧ Q y (st.set n (.lst xs.dropLast))
  | .ref n, [.int i] => ∃ xs k y, st[n]? = some (.lst xs) ∧ -(2 ^ 63) ≤ i ∧ i < 2 ^ 63 ∧ seqIndex? i xs.length = some k ∧ xs[k]? = some y ∧ Q y (st.set n (.lst (xs.eraseIdx k)))
  | _, _ => False
def rPopZ : V → List V → Hp → VK → Prop := fun x vs H Q => rPop x vs H Q ∨ rPopAt x vs H Q
theorem mt_popZ : MtR X "list.pop" rPopZ := MtR.or mt_pop mt_popAt
theorem rs_pop : RSM K rPopZ popA := fun αs st H x xs dx ds Q QA s rx r h z => by
  unfold popA at h
  split at h
  · obtain ⟨ys, y, h1, h2, h3⟩ := h
    cases r
    obtain ⟨a, vs, e1, e2, l, e3, r3⟩ := live_ok s rx h1
    obtain ⟨v, e4, r4⟩ := r3.get h2
    exact .inl ⟨a, vs, v, e1, rfl, e3, by rw [r3.length]; exact e4, live_set s e2 l r3.dropLast r4 h3 z⟩
  · obtain ⟨ys, k, y, h1, b1, b2, h2, h3, h4⟩ := h
    obtain ⟨v, e, r1⟩ := rp1 r
    subst e
    cases r1
    obtain ⟨a, vs, e1, e2, l, e3, r3⟩ := live_ok s rx h1
    obtain ⟨v, e4, r4⟩ := r3.get h3
    exact .inr ⟨a, vs, _, k, v, e1, rfl, e3, b1, b2, by rw [r3.length]; exact h2, e4, live_set s e2 l (r3.eraseIdx k) r4 h4 z⟩
  · exact h.elim
end

/-! ### a chain of comparisons -/
def aChain (r r' : A2) (ta tb tc : AE) : AE := fun S Q X => ta S (fun x S1 => tb S1 (fun y S2 => r x y S2.st fun d st => ∃ b, d = .bl b ∧ if b = true then tc ⟨S2.σ, st⟩ (fun z S3 => r' y z S3.st fun d st => Q d ⟨S3.σ, st⟩) X else Q (.bl false) ⟨S2.σ, st⟩) X) X
section
variable {X : Cx} {W : WX} {a b c : Expr} {ta tb tc : AE} {pos : Pos} {op op' : CmpOp} {r r' : R2} {rA rA' : A2}
theorem conc_chain (hr : RS2 X.K r rA) (hr' : RS2 X.K r' rA') : ∀ σ H Q, conc X.K W (aChain rA rA' ta tb tc) σ H Q → tChain r r' (conc X.K W ta) (conc X.K W tb) (conc X.K W tc) σ H Q := fun σ H Q ⟨αs, S, QA, XA, R, h, q, xo⟩ => by
  refine ⟨αs, S, _, XA, R, h, fun αs1 v H1 d S1 R1 e1 rv h1 => ?_, xo⟩
  refine ⟨αs1, S1, _, XA, R1, h1, fun αs2 w H2 e S2 R2 e2 rw h2 => ?_, xo.on R R1 e1⟩
  have e12 := e1.trans R.s e2 R1.s
  refine hr αs2 S2.st H2 v w d e _ _ R2.s (rv.mono (e2.carry R1.s)) rw h2 fun αs3 u H3 f st3 s3 e3 ru ⟨bb, h0, h3⟩ => ?_
  subst h0
  cases ru
  have R3 := R2.mono e3 s3
  have e13 := e12.trans R.s e3 R2.s
  refine ⟨bb, rfl, ?_⟩
  cases bb with
  | false => exact q αs3 _ H3 _ _ R3 e13 (.bl false) h3
  | true =>
    refine ⟨αs3, ⟨S2.σ, st3⟩, _, XA, R3, h3, fun αs4 y H4 g S4 R4 e4 ry h4 => ?_, xo.on R R3 e13⟩
    exact hr' αs4 S4.st H4 w y e g Q _ R4.s ((rw.mono (e3.carry R2.s)).mono (e4.carry s3)) ry h4 (ZOk.of q R R4 (e13.trans R.s e4 s3))
theorem j_chain (oz : OpR X (compareOp op) r) (oz' : OpR X (compareOp op') r') (hr : RS2 X.K r rA) (hr' : RS2 X.K r' rA') (ha : JE X W a ta) (hb : JE X W b tb) (hc : JE X W c tc)
    (hm : lastMarks [op, op'] [b, c] = false := by with_unfolding_all rfl) : JE X W (.Compare a [op, op'] [b, c] pos) (aChain rA rA' ta tb tc) := PE.imp (pe_chain oz oz' ha hb hc hm) (conc_chain hr hr')
theorem jt_chain (oz : OpR X (compareOp op) r) (oz' : OpR X (compareOp op') r') (hr : RS2 X.K r rA) (hr' : RS2 X.K r' rA') (ha : JE X W a ta) (hb : JE X W b tb) (hc : JE X W c tc)
    (hm : lastMarks [op, op'] [b, c] = false := by with_unfolding_all rfl) : JB X W (.Compare a [op, op'] [b, c] pos) (aTest (aChain rA rA' ta tb tc)) :=
  PT.imp (pt_chain oz oz' ha hb hc hm) fun σ H Q ⟨αs, S, QA, XA, R, h, q, xo⟩ => conc_chain hr hr' σ H _ ⟨αs, S, _, XA, R, h, fun αs1 v H1 d S1 R1 e1 rv ⟨bb, hd, h1⟩ => by
    subst hd
    cases rv
    exact ⟨bb, rfl, q αs1 bb H1 S1 R1 e1 h1⟩, xo⟩
end
end Ab
set_option Elab.async false
set_option linter.all false
set_option maxRecDepth 100000
set_option autoImplicit false
/-! Exceptions: made, raised, caught, read. -/
namespace Ab
open PySem PySem.Spec PyProof.Rows L2

/-! ### X(e), X's __init__ setting one field; two fields; none -/
def spInit (K : PySem.W.Frag) (C : Addr) (f : Str) : Sp := fun vs H Q _ => ∃ a y, vs = [.ref a, y] ∧ OexC K C ∧ PySem.W.findIn K (.ref C) f = some none ∧ H a = some (exo a C none) ∧
  ∀ dx, H dx = none → dx ≠ a → Q .non (upd (upd H dx (exd dx [(f, y)])) a (exo a C (some dx)))
theorem spInit_len {K : PySem.W.Frag} {C : Addr} {f : Str} : ∀ vs H Q E, spInit K C f vs H Q E → vs.length = 2 := fun vs H Q E ⟨a, y, e, _⟩ => by rw [e]; rfl
def spInit2 (K : PySem.W.Frag) (C : Addr) (f g : Str) : Sp := fun vs H Q _ => ∃ a y z, vs = [.ref a, y, z] ∧ OexC K C ∧ PySem.W.findIn K (.ref C) f = some none ∧ PySem.W.findIn K (.ref C) g = some none ∧ H a = some (exo a C none) ∧
  ∀ dx, H dx = none → dx ≠ a → Q .non (upd (upd (upd H dx (exd dx [(f, y)])) a (exo a C (some dx))) dx (exd dx [(g, z), (f, y)]))
theorem spInit2_len {K : PySem.W.Frag} {C : Addr} {f g : Str} : ∀ vs H Q E, spInit2 K C f g vs H Q E → vs.length = 3 := fun vs H Q E ⟨a, y, z, e, _⟩ => by rw [e]; rfl
def aRaise (C : Addr) (f : Str) (t : AA) : AT := fun D S => t S (fun ds S1 => ∃ d, ds = [d] ∧ D.xe ⟨.ref C, [(f, d)]⟩ S1) D.xe
def aRaise2 (C : Addr) (f g : Str) (t : AA) : AT := fun D S => t S (fun ds S1 => ∃ d e, ds = [d, e] ∧ D.xe ⟨.ref C, [(g, e), (f, d)]⟩ S1) D.xe
def aRaise0 (C : Addr) : AT := fun D S => D.xe ⟨.ref C, []⟩ S
section
variable {X : Cx} {W : WX} {C fI : Addr} {f g x : Str} {k : Nat} {fd : FuncData} {ps : List Str} {e : Expr} {es : List Expr} {t : AA} {p pos pos' : Pos}
theorem over_del {H : Hp} {a d : Addr} {o : HO} {fs fs' : List (Str × V)} {u : HO} (hd : d ≠ a) (ha : H a = none) : upd (del (upd (upd (upd H a o) d (exd d fs')) a u) a) d (.xd fs) = upd H d (.xd fs) := by
  funext b
  by_cases h1 : b = d
  · rw [h1, upd_same, upd_same]
  · rw [upd_ne h1, upd_ne h1]
    by_cases h2 : b = a
    · rw [h2, del_same, ha]
    · rw [del_ne h2, upd_ne h2, upd_ne h1, upd_ne h2]
theorem over_del2 {H : Hp} {a d : Addr} {o : HO} {fs fs' : List (Str × V)} {u v : HO} (hd : d ≠ a) (ha : H a = none) : upd (del (upd (upd (upd (upd H a o) d (exd d fs')) a u) d v) a) d (.xd fs) = upd H d (.xd fs) := by
  funext b
  by_cases h1 : b = d
  · rw [h1, upd_same, upd_same]
  · rw [upd_ne h1, upd_ne h1]
    by_cases h2 : b = a
    · rw [h2, del_same, ha]
    · rw [del_ne h2, upd_ne h1, upd_ne h2, upd_ne h1, upd_ne h2]
theorem js_raise (hc : X.calm = true) (tk : Takes X W) (T : OexC X.K C) (hno : PySem.W.findIn X.K (.ref C) f = some none) (iC : PySem.W.findIn X.K (.ref C) "__init__" = some (some (.ref fI))) (tI : PySem.W.typeIn X.K (.ref fI) = some (.type "function"))
    (F1 : FnOk X.prog X.w X.K X.mg X.base (L2.CX X.prog X.w) k fI fd ps (spInit X.K C f)) (hr : Room (k + 1) X.A) (hb : Binds X.K fd ps []) (hg : Gl X x) (hm : X.mg x = some (.ref C)) (ha : JA X W (e :: es) t)
    (hdb : (x == ("__debug__" : Str)) = false := by decide) (he : starEach (e :: es) X.env = (false, eval e X.env) :: starEach es X.env := by rfl) (hpl : (backTo pos (starEach es X.env)).any (·.1) = false := by rfl) :
    JS X W (.Raise (some (.Call (.Name x p) (e :: es) [] pos)) none pos') (aRaise C f t) := by
  refine PS.imp (ps_raise hc tk (pmk_oex (dvs := []) (ds := []) T iC tI F1 hr hb .nil (passes_call tk fun _ _ _ _ z => False.elim z) hg hm ha hdb he hpl)) fun D σ H ⟨αs, S, DA, R, h, eo⟩ => ?_
  refine ⟨αs, S, _, DA.xe, R, h, fun αs1 vs H1 ds S1 R1 e1 rv ⟨d, hd, h1⟩ => ?_, eo.x σ⟩
  subst hd
  cases rv with
  | @cons y _ _ _ r1 rr =>
    cases rr
    refine ⟨by simp, fun a na => ?_⟩
    refine ⟨a, y, rfl, T, hno, upd_same, fun dx nd hda => ⟨rfl, dx, [(f, y)], upd_same, ?_, ?_, ?_⟩⟩
    · rw [upd_ne hda, upd_same]
    · rw [upd_ne hda] at nd; exact nd
    · rw [over_del hda na]
      rw [upd_ne hda] at nd
      exact eo.xe αs1 σ _ ⟨S1.σ, S1.st⟩ _ _ _ (R1.mono (Ext.new R1.s nd) (R1.s.new nd)) (e1.trans R.s (Ext.new R1.s nd) R1.s) ⟨_, upd_same, .cons (r1.mono ((Ext.new R1.s nd).carry R1.s)) .nil⟩ h1
theorem js_raise2 (hc : X.calm = true) (tk : Takes X W) (T : OexC X.K C) (hno : PySem.W.findIn X.K (.ref C) f = some none) (hnp : PySem.W.findIn X.K (.ref C) g = some none) (iC : PySem.W.findIn X.K (.ref C) "__init__" = some (some (.ref fI))) (tI : PySem.W.typeIn X.K (.ref fI) = some (.type "function"))
    (F1 : FnOk X.prog X.w X.K X.mg X.base (L2.CX X.prog X.w) k fI fd ps (spInit2 X.K C f g)) (hr : Room (k + 1) X.A) (hb : Binds X.K fd ps []) (hg : Gl X x) (hm : X.mg x = some (.ref C)) (ha : JA X W (e :: es) t)
    (hdb : (x == ("__debug__" : Str)) = false := by decide) (he : starEach (e :: es) X.env = (false, eval e X.env) :: starEach es X.env := by rfl) (hpl : (backTo pos (starEach es X.env)).any (·.1) = false := by rfl) :
    JS X W (.Raise (some (.Call (.Name x p) (e :: es) [] pos)) none pos') (aRaise2 C f g t) := by
  refine PS.imp (ps_raise hc tk (pmk_oex (dvs := []) (ds := []) T iC tI F1 hr hb .nil (passes_call tk fun _ _ _ _ z => False.elim z) hg hm ha hdb he hpl)) fun D σ H ⟨αs, S, DA, R, h, eo⟩ => ?_
  refine ⟨αs, S, _, DA.xe, R, h, fun αs1 vs H1 ds S1 R1 e1 rv ⟨d, d', hd, h1⟩ => ?_, eo.x σ⟩
  subst hd
  cases rv with
  | @cons y _ _ _ r1 rr =>
    cases rr with
    | @cons z _ _ _ r2 r0 =>
      cases r0
      refine ⟨by simp, fun a na => ?_⟩
      refine ⟨a, y, z, rfl, T, hno, hnp, upd_same, fun dx nd hda => ⟨rfl, dx, [(g, z), (f, y)], ?_, upd_same, ?_, ?_⟩⟩
      · rw [upd_ne (Ne.symm hda), upd_same]
      · rw [upd_ne hda] at nd; exact nd
      · rw [over_del2 hda na]
        rw [upd_ne hda] at nd
        have c := (Ext.new (o := HO.xd [(g, z), (f, y)]) R1.s nd).carry R1.s
        exact eo.xe αs1 σ _ ⟨S1.σ, S1.st⟩ _ _ _ (R1.mono (Ext.new R1.s nd) (R1.s.new nd)) (e1.trans R.s (Ext.new R1.s nd) R1.s) ⟨_, upd_same, .cons (r2.mono c) (.cons (r1.mono c) .nil)⟩ h1
/-- X(): an own exception without own __init__ and without arguments -/
theorem pmk_none {bmB : List Value} {B newId initId : String} (F : ExcBaseFacts B newId initId bmB) (q : PySem.W.excIn X.K C bmB newId = true) (gC : X.mg x = some (.ref C)) (kC : PySem.W.keepIn X.K (.ref C) = true) (r : Raises X (.ref C)) (hg : Gl X x)
    (hdb : (x == ("__debug__" : Str)) = false := by decide) (hpl : (backTo pos (starEach [] X.env)).any (·.1) = false := by rfl) : PMk X (.Call (.Name x p) [] [] pos) (fun _ H Q => Q (.ref C) none H) := by
  intro pns sh slots heap goal J want
  refine wpAny_Call_Name_kw (ld_glob J hg gC ?_ hdb)
  refine PySem.W.callWith_K0 J.kIn kC ?_
  show wpAny _ _ (call (.ref C) []) _ _ _
  obtain ⟨bm, N, nm, qn, bs, hdct, sn, sub, ab, col, dd, k0, k1, k2, k3, k5, mN, hC, hN, hni, T⟩ := exc_obj J.kIn q
  exact wpAny_call_exc_subT F T hC hN hni (fun h' en made => mk_of J made r want (J.hok.gone made.new)) (by simp)
theorem js_raise0 (hc : X.calm = true) (tk : Takes X W) {bmB : List Value} {B newId initId : String} (F : ExcBaseFacts B newId initId bmB) (q : PySem.W.excIn X.K C bmB newId = true) (gC : X.mg x = some (.ref C)) (kC : PySem.W.keepIn X.K (.ref C) = true) (r : Raises X (.ref C)) (hg : Gl X x)
    (hdb : (x == ("__debug__" : Str)) = false := by decide) (hpl : (backTo pos (starEach [] X.env)).any (·.1) = false := by rfl) : JS X W (.Raise (some (.Call (.Name x p) [] [] pos)) none pos') (aRaise0 C) :=
  PS.imp (ps_raise hc tk (pmk_none F q gC kC r hg hdb hpl)) fun D σ H ⟨αs, S, DA, R, h, eo⟩ => eo.xe αs σ H S _ _ _ R R.ext0 rfl h
end

/-! ### the text of such an __init__ -/
def initB1 (f : Str) (q1 q2 q3 q4 : Pos) : List Stmt := [.Assign [.Attribute (.Name "self" q1) f q2] (.Name f q3) q4]
section
variable {P : Program} {w : World} {K : PySem.W.Frag} {mg : Str → Option Value} {base : Heap}
theorem init_ok {qual f : Str} {st : Stmt} {fa C : Addr} {fd : FuncData} (F : Fun K "__init__" qual st fa fd) (S : FnScope ["self", f] ["self", f] (defScope st)) {q1 q2 q3 q4 : Pos} (hb : defBody st = [.Assign [.Attribute (.Name "self" q1) f q2] (.Name f q3) q4])
    (hd1 : (f == ("__debug__" : Str)) = false := by decide) (hd2 : (f == ("__classdict__" : Str)) = false := by decide) :
    FnOk P w K mg base (L2.CX P w) 1 fa fd ["self", f] (spInit K C f) := by
  refine F.okX (k := 0) S spInit_len fun cdv A outer s H vs Q E hr h => ?_
  obtain ⟨a, y, ev, T, hno, ha, q⟩ := h
  subst ev
  have vis : ∀ z : Str, z ∈ ([("self" : Str), f] : List Str) → Vis (defScope st) z := fun z hz => by
    rcases S.par z hz with h | h
    · exact .inl h
    · exact .inr (.inl h)
  rw [hb]
  refine ⟨_, pss_cons (ps_ost (to := tVar 0) (te := tVar 1) (pe_var (i := 0) rfl ?_ (by decide) (by decide)) (pe_var (i := 1) rfl ?_ hd1 hd2)) pss_nil, ?_⟩
  · exact vis _ (by simp)
  · exact vis _ (by simp)
  · refine ⟨y, rfl, ?_⟩
    refine ⟨.ref a, rfl, ?_⟩
    exact ⟨a, C, rfl, T, hno, .inl ⟨ha, fun dx nd hda => q dx nd hda⟩⟩
end

/-! ### try: several clauses, with names or without -/
abbrev Clause := Value × Option Nat × (Addr → Value → Option Addr → TS)
def offD (i : Nat) (D : Ends) : Ends := { nx := fun τ J => D.nx (τ.set i none) J, rt := D.rt, bk := fun τ J => D.bk (τ.set i none) J, ct := fun τ J => D.ct (τ.set i none) J }
def suiteW (D : Ends) (o : Option Nat) (ts : Addr → Value → Option Addr → TS) (a : Addr) (cls : Value) (d : Option Addr) (σ : L2.St) (H : Hp) : Prop := match o with
  | none => ts a cls d D σ H
  | some i => ts a cls d (offD i D) (σ.set i (some (.ref a))) H
def wZ (K : PySem.W.Frag) (Wout : WX) (D : Ends) : List Clause → WX
  | [] => Wout
  | (c, o, ts) :: more => fun cls d σ H => ∃ b, PySem.W.exmOne K cls c = some b ∧ (b = true → ∀ a, H a = none → suiteW D o ts a cls d σ H) ∧ (b = false → wZ K Wout D more cls d σ H)
def Named (X : Cx) : Option Str → Option Nat → Prop
  | none, none => True
  | some n, some i => X.N[i]? = some n ∧ X.env.kindOf n = some .local
  | _, _ => False
inductive HdsZ (X : Cx) : List ExceptHandler → List Clause → Prop
  | nil : HdsZ X [] []
  | cons {x : Str} {c : Value} {on : Option Str} {oi : Option Nat} {ts : Addr → Value → Option Addr → TS} {b₀ : Stmt} {suite : List Stmt} {np hp : Pos} {hds : List ExceptHandler} {l : List Clause} (names : Names X x c) (nm : Named X on oi)
      (body : ∀ (a : Addr) (oe : Obj) (cls : Value) (d : Option Addr) (pn : List (Addr × Obj)), Zc cls d oe → (∃ vs, oe.data = .fields vs) → PSs (X.suite a ((a, oe) :: pn)) (b₀ :: suite) (ts a cls d)) (more : HdsZ X hds l) :
      HdsZ X (.ExceptHandler (some (.Name x np)) on (b₀ :: suite) hp :: hds) ((c, oi, ts) :: l)
section
variable {X : Cx} {body : List Stmt} {hd0 : ExceptHandler} {hds : List ExceptHandler} {l : List Clause} {pos : Pos} {tb : WX → TS} {Wout : WX}
theorem notFrame {B h : Heap} {l : List Env} {a : Addr} {o : Obj} {vs : Array Value} (ff : h.FunFrames B l) (e : h.get? a = some o) (hd : o.data = .fields vs) : a ∉ frs l := fun hm => by
  obtain ⟨_, o2, e2, no⟩ := ff.mem hm
  rw [e] at e2
  cases e2
  exact no _ hd
theorem ps_tryZ (hs : X.stack = X.env :: X.outer) (hf : X.env.frame = some X.env.locals) (hN : X.N.Nodup) (take : Takes X Wout)
    (hb : ∀ (W : WX) (pn : List (Addr × Obj)) (xe : Value → Shared → Prop), Takes (X.tr pn xe) W → PassesOwn (model X.prog X.w) X.A X.env xe → PSs (X.tr pn xe) body (tb W))
    (hh : HdsZ X (hd0 :: hds) l) : PS X (.Try body (hd0 :: hds) [] [] pos) (fun D σ H => tb (wZ X.K Wout D l) D σ H) := by
  constructor
  intro pins s σ H D I want
  have okX := I.ok
  have frames : X.A.frames = some (X.env :: X.outer) := by rw [okX.frames, hs]
  let XE' : Value → Shared → Prop := fun e t1 => wpAny (model X.prog X.w) X.A (noteFrame e X.env) (fun _ t2 => wpAny (model X.prog X.w) X.A (setFlight e none) (fun _ t3 => wpAny (model X.prog X.w) X.A (handleBy e X.env (hd0 :: hds)) (SP X pins D) X.xe t3) X.xe t2) X.xe t1
  have inner := hb (wZ X.K Wout D l) (X.pn ++ pins) XE' (fun u sx air => ?caught) PassesOwn.looking
  case caught =>
    obtain ⟨a, B, sI, pins', τ, J, cls, d, ue, JI, grd, up, sky, na, eos, bare, w⟩ := air
    subst ue
    have I0 : Inv X pins τ J sI := JI.ofTry okX
    have sky0 : Sky B (X.env :: X.outer) a (Zc cls d) X.env.locals sx.heap := by rw [← hs]; exact sky
    show wpAny (model X.prog X.w) X.A (noteFrame (.ref a) X.env) _ _ _
    refine Sky.land Zc.steady frames hf sky0 fun hC flC upC => ?_
    have IC : Inv X pins τ J { sx with heap := hC } := I0.landed grd flC.1 (up.trans upC) eos bare
    obtain ⟨oeC, vsC, getC, zC, dC⟩ := flC.there
    have nfr := notFrame flC.2.2.1 getC dC
    have nloc : a ≠ X.env.locals := fun z => nfr (List.mem_filterMap.mpr ⟨X.env, List.mem_cons_self, by rw [hf, z]⟩)
    have nfs : a ∉ X.fs := fun hm => by
      obtain ⟨fr, hfr, q⟩ := List.mem_filterMap.mp hm
      exact nfr (List.mem_filterMap.mpr ⟨fr, List.mem_cons_of_mem _ hfr, q⟩)
    have suiteC := IC.suite getC dC na nloc nfs
    have clauses : ∀ {hs' : List ExceptHandler} {l' : List Clause}, HdsZ X hs' l' → wZ X.K Wout D l' cls d τ J → wpAny (model X.prog X.w) X.A (handleBy (.ref a) X.env hs') (SP X pins D) X.xe { sx with heap := hC } := by
      intro hs' l' all
      induction all with
      | nil =>
        intro w
        refine wpAny_handleBy_nil ?_
        obtain ⟨_, _, _, oe, vs, T, oT, tt, getA, _, dA, at1, _⟩ := id flC
        unfold PySem.passOn
        refine wpAny_bind (wpAny_field getA dA at1 ?_)
        rw [if_neg (show ¬ ((Value.ref T == Value.none) = true) from by simp)]
        have onward : wpAny (model X.prog X.w) X.A (setFlight (.ref a) X.env.frame) (fun _ t4 => wpAny (model X.prog X.w) X.A (throw (.ref a) : Sem Flow) (SP X pins D) X.xe t4) X.xe { sx with heap := hC } := by
          rw [hf]
          refine HandSPX.setFlight_upZ flC fun hE hold upE => wpAny_throw (take _ _ ?_)
          exact ⟨a, B, sI, pins, τ, J, cls, d, rfl, I0, grd, (up.trans upC).trans upE, .inr (.inr (by rw [hs]; exact hold)), na, eos, bare, w⟩
        first
          | exact wpAny_bind (wpAny_pure (wpAny_bind onward))
          | exact wpAny_bind onward
      | @cons x c on oi ts b₀ suite np hp hds2 l2 names nm sbody more ih =>
        intro w
        obtain ⟨b, match_, yes, no⟩ := w
        refine wpAny_handleBy_cons (codeAny_handlers_test ?_) (by intro q; cases q)
        have LT : PySem.W.Looks (model X.prog X.w) hC (typeOf (.ref a)) cls := fun _ _ _ sh kk goal => wpAny_typeOf_ref (kk _ _ getC) (by rw [zC.1]; exact goal)
        have LM := PySem.W.exm_one (M := model X.prog X.w) (IC.kIn) LT match_
        have test : ∀ {Q2 : Value → Shared → Prop} {E2 : Value → Shared → Prop}, Q2 c { sx with heap := hC } → wpAny (model X.prog X.w) (X.A.mark (some (.ref a))) (eval (.Name x np) X.env) Q2 E2 { sx with heap := hC } := fun {Q2 E2} goal => by
          obtain ⟨gl, nodebug, own | ⟨notown, boot, notname⟩⟩ := names
          · exact ld_glob (X := X.suite a ((a, oeC) :: (X.pn ++ pins))) suiteC gl own goal nodebug
          · exact ld_blt (X := X.suite a ((a, oeC) :: (X.pn ++ pins))) suiteC gl notown boot goal notname nodebug
        refine test (LM.here ?_)
        cases b with
        | false =>
          show wpAny _ X.A (handleBy (.ref a) X.env hds2) _ _ _
          exact ih (no rfl)
        | true =>
          have start_ : ∀ {hE : Heap}, HandSPX.FlyingZ B (X.env :: X.outer) a (Zc cls d) hE → hC.UpToSlots hE → ∃ oe, Inv (X.suite a ((a, oe) :: (X.pn ++ pins))) [] τ J { sx with heap := hE } ∧ Zc cls d oe ∧ ∃ vs, oe.data = .fields vs := fun {hE} flE upE => by
            have IE : Inv X pins τ J { sx with heap := hE } := I0.landed grd flE.1 ((up.trans upC).trans upE) eos bare
            obtain ⟨oeE, vsE, getE, zE, dE⟩ := flE.there
            exact ⟨oeE, IE.suite getE dE na nloc nfs, zE, vsE, dE⟩
          have go := yes rfl a na
          cases on with
          | none =>
            cases oi with
            | some _ => exact False.elim nm
            | none =>
              refine codeAny_handlers_suite (HandSPX.lands_againZ flC fun hE flE upE => ?_)
              obtain ⟨oeE, IE, zE, dE⟩ := start_ flE upE
              refine wpAny_mono ((sbody a oeE cls d (X.pn ++ pins) zE dE).run [] _ τ J D IE go) (fun fl t6 out => ?_) (fun _ _ z => False.elim z)
              cases fl with
              | ret u =>
                obtain ⟨v6, σ6, H6, I6, r6, q6⟩ := out
                exact ⟨v6, σ6, H6, I6.unsuite okX, r6, q6⟩
              | next | brk | cont =>
                obtain ⟨σ6, H6, I6, q6⟩ := out
                exact ⟨σ6, H6, I6.unsuite okX, q6⟩
          | some n =>
            cases oi with
            | none => exact False.elim nm
            | some i =>
              obtain ⟨hi, hloc⟩ := nm
              refine codeAny_handlers_suite_as (HandSPX.lands_againZ flC fun hE flE upE => ?_)
              obtain ⟨oeE, IE, zE, dE⟩ := start_ flE upE
              refine store_ok (X := X.suite a ((a, oeE) :: (X.pn ++ pins))) (v := .ref a) IE hN hi (.inl hloc) rfl (fun t5 I5 => ?_) (.inr hloc)
              refine wpAny_mono ((sbody a oeE cls d (X.pn ++ pins) zE dE).run [] t5 _ J _ I5 go) (fun fl t6 out => ?_) (fun _ _ z => False.elim z)
              have done : ∀ {σ6 : L2.St} {H6 : Hp} {Q6 : Shared → Prop}, Inv (X.suite a ((a, oeE) :: (X.pn ++ pins))) [] σ6 H6 t6 → (∀ t7, Inv X pins (σ6.set i none) H6 t7 → Q6 t7) →
                  wpAny (model X.prog X.w) X.A (do bindName X.env n .none; unbindBehindTheSuite X.env n hp) (fun _ t7 => Q6 t7) X.xe t6 := fun {σ6 H6 Q6} I6 fin => gone_ok (I6.unsuite okX) hN hi hloc fin
              cases fl with
              | ret u =>
                obtain ⟨v6, σ6, H6, I6, r6, q6⟩ := out
                exact done I6 fun t7 I7 => ⟨v6, _, H6, I7, r6, q6⟩
              | next | brk | cont =>
                obtain ⟨σ6, H6, I6, q6⟩ := out
                exact done I6 fun t7 I7 => ⟨_, H6, I7, q6⟩
    exact clauses hh w
  refine wpAny_Try_except (wpAny_mono (inner.run [] s σ H D (I.toTry _) want) (fun fl t1 out => ?_) (fun e t1 air => air))
  cases fl with
  | next =>
    obtain ⟨τ, J, IJ, q⟩ := out
    exact wpAny_execs_nil ⟨τ, J, IJ.ofTry okX, q⟩
  | ret u =>
    obtain ⟨v, τ, J, IJ, r, q⟩ := out
    exact ⟨v, τ, J, IJ.ofTry okX, r, q⟩
  | brk | cont =>
    obtain ⟨τ, J, IJ, q⟩ := out
    exact ⟨τ, J, IJ.ofTry okX, q⟩
end

/-! ### the same for the layer -/
abbrev ClauseA := Value × Option Nat × (Addr → Value → Option Addr → AT)
def offK (i : Nat) (D : AK) : AK := { nx := fun S => D.nx ⟨S.σ.set i none, S.st⟩, rt := D.rt, bk := fun S => D.bk ⟨S.σ.set i none, S.st⟩, ct := fun S => D.ct ⟨S.σ.set i none, S.st⟩, xe := noX }
def suiteA (D : AK) (o : Option Nat) (ts : Addr → Value → Option Addr → AT) (a : Addr) (dd : Option Addr) (x : XD) (S : AS) : Prop := match o with
  | none => ts a x.cls dd { D with xe := noX } S
  | some i => ts a x.cls dd (offK i D) ⟨S.σ.set i (some (.exc a x.cls dd x.fs)), S.st⟩
def hdl (m : Value → Value → Option Bool) (D : AK) : List ClauseA → AX
  | [] => D.xe
  | (c, o, ts) :: more => fun x S => ∃ b, m x.cls c = some b ∧ (b = true → ∀ a dd, (dd = none → x.fs = []) → suiteA D o ts a dd x S) ∧ (b = false → hdl m D more x S)
def aTry (m : Value → Value → Option Bool) (hs : List ClauseA) (tb : AT) : AT := fun D S => tb { D with xe := hdl m D hs } S
inductive HdsA (X : Cx) : List ExceptHandler → List ClauseA → Prop
  | nil : HdsA X [] []
  | cons {x : Str} {c : Value} {on : Option Str} {oi : Option Nat} {ts : Addr → Value → Option Addr → AT} {b₀ : Stmt} {suite : List Stmt} {np hp : Pos} {hds : List ExceptHandler} {l : List ClauseA} (names : Names X x c) (nm : Named X on oi)
      (body : ∀ (a : Addr) (oe : Obj) (cls : Value) (d : Option Addr) (pn : List (Addr × Obj)), Zc cls d oe → (∃ vs, oe.data = .fields vs) → JSs (X.suite a ((a, oe) :: pn)) noW (b₀ :: suite) (ts a cls d)) (more : HdsA X hds l) :
      HdsA X (.ExceptHandler (some (.Name x np)) on (b₀ :: suite) hp :: hds) ((c, oi, ts) :: l)
def clC (K : PySem.W.Frag) : ClauseA → Clause := fun (c, o, ts) => (c, o, fun a cls d => concS K noW (ts a cls d))
section
variable {X : Cx} {W : WX} {body : List Stmt} {hd0 : ExceptHandler} {hds : List ExceptHandler} {l : List ClauseA} {pos : Pos} {tb : AT}
theorem HdsA.z {hds : List ExceptHandler} {l : List ClauseA} (h : HdsA X hds l) : HdsZ X hds (l.map (clC X.K)) := by
  induction h with
  | nil => exact .nil
  | cons names nm body more ih => exact .cons names nm body ih
theorem noXS {K : PySem.W.Frag} {αs : Al} {st : Store} {H : Hp} : XOkS K noW αs st H noX := fun _ _ _ _ _ _ _ _ _ _ h => h
theorem wZ_ok {K : PySem.W.Frag} {αs : Al} {st : Store} {H : Hp} {DA : AK} {D : Ends} (eo : EOk K W αs st H DA D) (len : αs.l.length = st.length) (s0 : SRel K αs st H) : ∀ l : List ClauseA, XOkS K (wZ K W D (l.map (clC K))) αs st H (hdl (PySem.W.exmOne K) DA l)
  | [] => eo.xe
  | (c, o, ts) :: more => fun αs' σ' H' S' cls dd gs R' e' xr ⟨b, hm, yes, no⟩ => by
    refine ⟨b, hm, fun hb a na => ?_, fun hb => wZ_ok eo len s0 more αs' σ' H' S' cls dd gs R' e' xr (no hb)⟩
    have go := yes hb a dd (fun z => by subst z; exact xr)
    have later : EOk K W αs' S'.st H' DA D := ⟨fun αs2 σ2 H2 S2 r2 e2 q => eo.nx αs2 σ2 H2 S2 r2 (e'.trans s0 e2 R'.s) q, fun αs2 σ2 v H2 d S2 r2 e2 rv q => eo.rt αs2 σ2 v H2 d S2 r2 (e'.trans s0 e2 R'.s) rv q,
      fun αs2 σ2 H2 S2 r2 e2 q => eo.bk αs2 σ2 H2 S2 r2 (e'.trans s0 e2 R'.s) q, fun αs2 σ2 H2 S2 r2 e2 q => eo.ct αs2 σ2 H2 S2 r2 (e'.trans s0 e2 R'.s) q, fun αs2 σ2 H2 S2 c2 d2 g2 r2 e2 x2 q => eo.xe αs2 σ2 H2 S2 c2 d2 g2 r2 (e'.trans s0 e2 R'.s) x2 q⟩
    cases o with
    | none => exact ⟨αs', S', _, R', go, ⟨later.nx, later.rt, later.bk, later.ct, noXS⟩⟩
    | some i =>
      refine ⟨αs', _, _, R'.set (i := i) (v := .ref a) ?_, go, ⟨fun αs2 σ2 H2 S2 r2 e2 q => later.nx αs2 _ H2 _ (r2.unset i) e2 q, fun αs2 σ2 v H2 d S2 r2 e2 rv q => later.rt αs2 σ2 v H2 d S2 r2 e2 rv q, fun αs2 σ2 H2 S2 r2 e2 q => later.bk αs2 _ H2 _ (r2.unset i) e2 q,
        fun αs2 σ2 H2 S2 r2 e2 q => later.ct αs2 _ H2 _ (r2.unset i) e2 q, noXS⟩⟩
      cases dd with
      | none =>
        have xr : gs = [] := xr
        subst xr
        exact .exc0
      | some d =>
        obtain ⟨fs, h1, h2⟩ := xr
        exact .exc h1 h2
theorem js_try (hs : X.stack = X.env :: X.outer) (hf : X.env.frame = some X.env.locals) (hN : X.N.Nodup) (take : Takes X W)
    (hb : ∀ (W' : WX) (pn : List (Addr × Obj)) (xe : Value → Shared → Prop), Takes (X.tr pn xe) W' → PassesOwn (model X.prog X.w) X.A X.env xe → JSs (X.tr pn xe) W' body tb) (hh : HdsA X (hd0 :: hds) l) : JS X W (.Try body (hd0 :: hds) [] [] pos) (aTry (PySem.W.exmOne X.K) l tb) :=
  PS.imp (ps_tryZ (tb := fun W' => concS X.K W' tb) hs hf hN take hb hh.z) fun D σ H ⟨αs, S, DA, R, h, eo⟩ =>
    ⟨αs, S, _, R, h, ⟨eo.nx, eo.rt, eo.bk, eo.ct, wZ_ok eo R.s.len R.s l⟩⟩
/-- e.f, e the exception that the suite holds -/
def aXf (a : Addr) (cls : Value) (dd : Option Addr) (C : Addr) (f : Str) (te : AE) : AE := fun S Q X => te S (fun x S1 => ∃ gs v, x = .exc a cls dd gs ∧ cls = .ref C ∧ gs.lookup f = some v ∧ Q v S1) X
theorem j_xf {a C : Addr} {oe : Obj} {cls : Value} {d : Option Addr} {pn : List (Addr × Obj)} {e : Expr} {te : AE} {pos : Pos} {n : Str} (T : XfC X.K C) (hno : PySem.W.findIn X.K (.ref C) n = some none) (hz : Zc cls d oe) (hf : ∃ vs, oe.data = .fields vs)
    (he : JE (X.suite a ((a, oe) :: pn)) W e te) (hb : attributeBase e n X.env (eval e X.env) = eval e X.env := by rfl) : JE (X.suite a ((a, oe) :: pn)) W (.Attribute e n pos) (aXf a cls d C n te) :=
  PE.imp (pe_xf T hno hz hf he hb) fun σ H Q ⟨αs, S, QA, XA, R, h, q, xo⟩ => by
    refine ⟨αs, S, _, XA, R, h, fun αs1 v H1 x S1 R1 e1 rv ⟨gs, u, hx, hc, hl, h1⟩ => ?_, xo⟩
    subst hx
    cases rv with
    | exc hd fr =>
      obtain ⟨w, hw, rw⟩ := fr.lookup hl
      exact ⟨rfl, hc, _, _, w, rfl, hd, hw, q αs1 w H1 u S1 R1 e1 rw h1⟩
    | exc0 => cases hl
theorem takesN {a : Addr} {pn : List (Addr × Obj)} : Takes (X.suite a pn) noW := takes0
end
end Ab
set_option Elab.async false
set_option linter.all false
set_option maxRecDepth 100000
set_option autoImplicit false
/-! Short words for the printed walks: names of the module, calls of its defs, its errors. -/
namespace Ab
open PySem PySem.Spec PyProof.Rows L2

/-- a def of the module that keeps its promise, callable where there is room for k more -/
structure Cal (P : Program) (w : World) (K : PySem.W.Frag) (mg : Str → Option Value) (base : Heap) (x : Str) (st : Stmt) (ps : List Str) (k : Nat) (asp : ASp) : Prop where
  ex : ∃ (f : Addr) (fd : FuncData), Fun K x x st f fd ∧ mg x = some (.ref f) ∧ L2.Binds K fd ps [] ∧ FnOk P w K mg base (L2.CX P w) k f fd ps (spOf K ps.length asp)
/-- how keywords bind -/
def KBx (x : Str) (st : Stmt) (ps : List Str) (n : Nat) (ks : List Str) (perm : List Nat) : Prop := ∀ (kV doc pm : Value) (an : Option Addr) (cdv ct : Value) (us ws : List Value), us.length = n → ws.length = ks.length →
  bindArgs (PySem.W.fnOf x x (defArgs st) (defBody st) (defScope st) .none kV doc pm an cdv ct) ⟨us, ks.zip ws⟩ = pure (ps.zip (pick Value.none perm (us ++ ws)))
/-- an own error with one field -/
structure Err1 (P : Program) (w : World) (K : PySem.W.Frag) (mg : Str → Option Value) (base : Heap) (x f : Str) (C : Addr) : Prop where
  gC : mg x = some (.ref C)
  T : OexC K C
  hno : PySem.W.findIn K (.ref C) f = some none
  xf : XfC K C
  ini : ∃ (fI : Addr) (fd : FuncData) (ps : List Str), PySem.W.findIn K (.ref C) "__init__" = some (some (.ref fI)) ∧ PySem.W.typeIn K (.ref fI) = some (.type "function") ∧ FnOk P w K mg base (L2.CX P w) 1 fI fd ps (spInit K C f) ∧ L2.Binds K fd ps []
/-- .. without -/
structure Err0 (K : PySem.W.Frag) (mg : Str → Option Value) (x : Str) (C : Addr) : Prop where
  gC : mg x = some (.ref C)
  ex : PySem.W.excIn K C [.type "ValueError", .type "Exception", .type "BaseException", .type "object"] "ValueError.__new__" = true
  kp : PySem.W.keepIn K (.ref C) = true
  sub : PySem.W.subIn K (.ref C) (.type "BaseException") = some true
  ty : PySem.W.typeIn K (.ref C) = some (.type "type")
section
variable {X : Cx} {W : WX} {e : Expr} {es : List Expr} {t tk : AA} {x f : Str} {p pos pos' : Pos} {k j n : Nat} {st : Stmt} {ps : List Str} {asp : ASp} {kws : List Keyword} {C : Addr}
theorem j_call' (tk : Takes X W) (c : Cal X.prog X.w X.K X.mg X.base x st ps k asp) (hr : Room j X.A) (hk : k ≤ j) (hg : Gl X x) (ha : JA X W (e :: es) t) (hn : ps.length = n := by rfl) (hdb : (x == ("__debug__" : Str)) = false := by decide)
    (he : starEach (e :: es) X.env = (false, eval e X.env) :: starEach es X.env := by rfl) (hpl : (backTo pos (starEach es X.env)).any (·.1) = false := by rfl) :
    JE X W (.Call (.Name x p) (e :: es) [] pos) (aCall n asp t) := by
  obtain ⟨f, fd, F, hm, hb, ok⟩ := c.ex
  subst hn
  exact j_call tk ok (hr.mono hk) hg hm F.kp hb ha hdb he hpl
theorem kb_of {f : Addr} {fd : FuncData} {K : PySem.W.Frag} {ks : List Str} {perm : List Nat} (F : Fun K x x st f fd) (h : KBx x st ps n ks perm) : KB fd ps n ks perm := by
  obtain ⟨oc, od, kV, doc, pm, an, cdv, ct, osl, e, _⟩ := F.ex
  subst e
  exact ⟨h kV doc pm an cdv ct⟩
theorem j_callK' {perm : List Nat} {ks : List Str} {m np : Nat} (tk' : Takes X W) (c : Cal X.prog X.w X.K X.mg X.base x st ps k asp) (hr : Room j X.A) (hk : k ≤ j) (hg : Gl X x) (hb : KBx x st ps n ks perm) (ha : JA X W (e :: es) t) (hkw : JK X W kws tk)
    (hm : ks.length = m := by rfl) (hn : ps.length = np := by rfl) (hall : (backToKw pos (keywordEach kws X.env)).all (·.1.isSome) = true := by rfl) (hks : (backToKw pos (keywordEach kws X.env)).filterMap (·.1) = ks := by rfl)
    (hdb : (x == ("__debug__" : Str)) = false := by decide) (he : starEach (e :: es) X.env = (false, eval e X.env) :: starEach es X.env := by rfl)
    (hpl : ((backTo pos (starEach (e :: es) X.env)).any (·.1) || (backToKw pos (keywordEach kws X.env)).any (·.1.isNone)) = false := by rfl) : JE X W (.Call (.Name x p) (e :: es) kws pos) (aCallK n m perm np asp t tk) := by
  obtain ⟨f, fd, F, hm', hb', ok⟩ := c.ex
  subst hn hm
  exact j_callK tk' ok (hr.mono hk) hg hm' F.kp (kb_of F hb) ha hkw hall hks hdb he hpl
theorem j_callK0' {perm : List Nat} {ks : List Str} {m np : Nat} (tk' : Takes X W) (c : Cal X.prog X.w X.K X.mg X.base x st ps k asp) (hr : Room j X.A) (hk : k ≤ j) (hg : Gl X x) (hb : KBx x st ps 0 ks perm) (hkw : JK X W kws tk)
    (hm : ks.length = m := by rfl) (hn : ps.length = np := by rfl) (hall : (backToKw pos (keywordEach kws X.env)).all (·.1.isSome) = true := by rfl) (hks : (backToKw pos (keywordEach kws X.env)).filterMap (·.1) = ks := by rfl)
    (hdb : (x == ("__debug__" : Str)) = false := by decide)
    (hpl : ((backTo pos (starEach [] X.env)).any (·.1) || (backToKw pos (keywordEach kws X.env)).any (·.1.isNone)) = false := by rfl) : JE X W (.Call (.Name x p) [] kws pos) (aCallK 0 m perm np asp aNil tk) := by
  obtain ⟨f, fd, F, hm', hb', ok⟩ := c.ex
  subst hn hm
  exact j_callK0 tk' ok (hr.mono hk) hg hm' F.kp (kb_of F hb) hkw hall hks hdb hpl
/-- raise X(e) -/
theorem js_raise' (hc : X.calm = true) (tk : Takes X W) (E : Err1 X.prog X.w X.K X.mg X.base x f C) (hr : Room j X.A) (hk : 2 ≤ j) (hg : Gl X x) (ha : JA X W (e :: es) t)
    (hdb : (x == ("__debug__" : Str)) = false := by decide) (he : starEach (e :: es) X.env = (false, eval e X.env) :: starEach es X.env := by rfl) (hpl : (backTo pos (starEach es X.env)).any (·.1) = false := by rfl) :
    JS X W (.Raise (some (.Call (.Name x p) (e :: es) [] pos)) none pos') (aRaise C f t) := by
  obtain ⟨fI, fd, ps, h1, h2, h3, h4⟩ := E.ini
  exact js_raise hc tk E.T E.hno h1 h2 h3 (hr.mono hk) h4 hg E.gC ha hdb he hpl
theorem js_raise0' (hc : X.calm = true) (tk : Takes X W) (E : Err0 X.K X.mg x C) (hg : Gl X x) (hdb : (x == ("__debug__" : Str)) = false := by decide) (hpl : (backTo pos (starEach [] X.env)).any (·.1) = false := by rfl) :
    JS X W (.Raise (some (.Call (.Name x p) [] [] pos)) none pos') (aRaise0 C) := js_raise0 hc tk F.excBase_ValueError E.ex E.gC E.kp (raises_own E.sub E.ty) hg hdb hpl
theorem names_own (hg : Gl X x) (hm : X.mg x = some (.ref C)) (hdb : (x == ("__debug__" : Str)) = false := by decide) : Names X x (.ref C) := ⟨hg, hdb, .inl hm⟩
/-- a built-in class as a value -/
theorem j_ty {T : String} (hg : Gl X x) (hm : X.mg x = none) (hv : bootBuiltins x = some (.type T)) (hn : x ≠ "__name__" := by decide) (hd : (x == ("__debug__" : Str)) = false := by decide) : JE X W (.Name x pos) (aC (.ty T)) :=
  jc (v := .ty T) (pe_bltn hg hm hv rfl hn hd) fun _ _ _ => .ty T
/-- a built-in function by the module's name -/
theorem j_callM {id : String} {r : List V → Hp → VK → Prop} {rA : AN} (hc : CallR X (.builtin id) r) (hr : RSN X.K r rA) (hg : Gl X x) (hm : X.mg x = some (.builtin id)) (ha : JA X W (e :: es) t) (hdb : (x == ("__debug__" : Str)) = false := by decide)
    (he : starEach (e :: es) X.env = (false, eval e X.env) :: starEach es X.env := by rfl) (hpl : (backTo pos (starEach es X.env)).any (·.1) = false := by rfl) : JE X W (.Call (.Name x p) (e :: es) [] pos) (aCB rA t) :=
  PE.imp (pe_callBfun hc hg hm ha hdb he hpl) (conc_cb hr)
/-- {} -/
def aDk0 : AE := fun S Q _ => Q (.dk []) S
theorem j_dk0 : JE X W (.Dict [] [] pos) aDk0 := PE.imp pe_dnewK fun σ H Q ⟨αs, S, QA, XA, R, h, q, xo⟩ => fun p hp =>
  q αs _ _ _ S (R.mono (Ext.new R.s hp) (R.s.new hp)) (Ext.new R.s hp) (.dk upd_same (R.s.notlive hp) .nil) h
/-- what the module holds by a name, never changed -/
theorem j_gc {d : D} {u : Value} {v : V} (hg : Gl X x) (hm : X.mg x = some u) (r : L2.RelV v u) (hd : ∀ αs L H, Rp X.K αs L H v d) (hdb : (x == ("__debug__" : Str)) = false := by decide) : JE X W (.Name x pos) (aC d) := jc (pe_glob hg hm r hdb) hd
end
/-! a def, its promise -/
section
variable {P : Program} {w : World} {K : PySem.W.Frag} {mg : Str → Option Value} {base : Heap}
/-- the body of a def, running -/
abbrev bX (P : Program) (w : World) (K : PySem.W.Frag) (mg : Str → Option Value) (base : Heap) (N : List Str) (x : Str) (st : Stmt) (f : Addr) (cdv : Value) (A : Around) (outer : List Env) (s : Shared) (H : Hp) (E : XK) : Cx :=
  cxOf (L2.CX P w) P w K mg base N x (defScope st) f cdv A outer s H E
/-- a walk through a def's body -/
def Walk (P : Program) (w : World) (K : PySem.W.Frag) (mg : Str → Option Value) (base : Heap) (N : List Str) (x : Str) (st : Stmt) (k : Nat) (t : AT) : Prop :=
  ∀ (f : Addr) (cdv : Value) (A : Around) (outer : List Env) (s : Shared) (H : Hp) (E : XK), Room k (A.deeper (envOfC x (defScope st) s.heap.objs.size f cdv)) → Takes (bX P w K mg base N x st f cdv A outer s H E) (fun cls d _ H' => E cls d H') →
    PassesOwn (model P w) (bX P w K mg base N x st f cdv A outer s H E).A (bX P w K mg base N x st f cdv A outer s H E).env (bX P w K mg base N x st f cdv A outer s H E).xe →
      JSs (bX P w K mg base N x st f cdv A outer s H E) (fun cls d _ H' => E cls d H') (defBody st) t
theorem cal_of {x : Str} {st : Stmt} {f : Addr} {fd : FuncData} {N ps : List Str} {k : Nat} {asp : ASp} (F : Fun K x x st f fd) (hm : mg x = some (.ref f)) (S : FnScope N ps (defScope st)) {t : AT}
    (hbd : ∀ (kV doc pm : Value) (an : Option Addr) (cdv ct : Value) (us : List Value), us.length = ps.length → bindArgs (PySem.W.fnOf x x (defArgs st) (defBody st) (defScope st) .none kV doc pm an cdv ct) ⟨us, []⟩ = pure (ps.zip us))
    (hb : Walk P w K mg base N x st k t) (ht : ∀ ds st0 QA EA, ds.length = ps.length → asp ds st0 QA EA → t (bodyK st0 QA EA) ⟨start N.length ds, st0⟩) : Cal P w K mg base x st ps (k + 1) asp :=
  ⟨⟨f, fd, F, hm, F.binds hbd, fnOk F S (fun cdv A outer s H E hr => hb f cdv A outer s H E hr (takes_of rfl rfl rfl rfl) (passes_of rfl)) ht⟩⟩
end
theorem u64 {k : Nat} {A : Around} (hr : Room k A) : A.units + 64 < cLine := by have := hr.un; omega
end Ab
set_option Elab.async false
set_option linter.all false
set_option maxRecDepth 100000
set_option autoImplicit false
/-! Fractions as the program writes them. -/
namespace Ab
open PySem PySem.Spec PyProof.Rows
def qD (q : Rat) : D := .tup [.int q.num, .int q.den]
/-- less than b bits -/
def Sm (b : Nat) (i : Int) : Prop := i.natAbs < 2 ^ b
def SmQ (b : Nat) (q : Rat) : Prop := Sm b q.num ∧ Sm b q.den
theorem Sm.mono {a b : Nat} {i : Int} (h : Sm a i) (hab : a ≤ b) : Sm b i := Nat.lt_of_lt_of_le h (Nat.pow_le_pow_right (by decide) hab)
theorem SmQ.mono {a b : Nat} {i : Rat} (h : SmQ a i) (hab : a ≤ b) : SmQ b i := ⟨h.1.mono hab, h.2.mono hab⟩
theorem Sm.bits {b : Nat} {i : Int} (h : Sm b i) : Builtin.Int.intBits i ≤ b := by
  unfold Builtin.Int.intBits
  by_cases h0 : i = 0
  · subst h0; simp
  · have : (i == 0) = false := by simpa using h0
    rw [this]
    have n0 : i.natAbs ≠ 0 := by omega
    have := (Nat.log2_lt n0).mpr h
    simp only [Bool.false_eq_true, if_false]
    omega
theorem Sm.mul {a b : Nat} {i j : Int} (h : Sm a i) (g : Sm b j) : Sm (a + b) (i * j) := by
  unfold Sm at *
  rw [Int.natAbs_mul, Nat.pow_add]
  exact Nat.mul_lt_mul'' h g
theorem Sm.add {b : Nat} {i j : Int} (h : Sm b i) (g : Sm b j) : Sm (b + 1) (i + j) := by
  unfold Sm at *
  have := Int.natAbs_add_le i j
  rw [Nat.pow_succ]; omega
theorem Sm.sub {b : Nat} {i j : Int} (h : Sm b i) (g : Sm b j) : Sm (b + 1) (i - j) := by
  unfold Sm at *
  have := Int.natAbs_sub_le i j
  rw [Nat.pow_succ]; omega
theorem Sm.neg {b : Nat} {i : Int} (h : Sm b i) : Sm b (-i) := by unfold Sm at *; rw [Int.natAbs_neg]; exact h
theorem mulOk {i j : Int} (h1 : Sm 4000 i) (h2 : Sm 4000 j) : MulOk i j := by
  unfold MulOk IntMulOk
  have b1 := h1.bits
  have b2 := h2.bits
  have e : Builtin.Int.intTooBig (Builtin.Int.intBits i + Builtin.Int.intBits j) = false := by
    unfold Builtin.Int.intTooBig bitsLine
    simp only [decide_eq_false_iff_not]
    omega
  rw [e]
  simp
theorem divOk {i j : Int} (h0 : j ≠ 0) (h : Sm 4000 j) : DivOk i j := by
  refine ⟨h0, ?_⟩
  unfold Builtin.divisionGoesByPylong
  have hj : (j == 0) = false := by simpa using h0
  have n0 : j.natAbs ≠ 0 := by omega
  have := (Nat.log2_lt n0).mpr h
  simp only [hj, Bool.false_eq_true, if_false]
  have : ¬ (j.natAbs.log2 / 30 + 1 > 300) := by omega
  simp [this]
/-- what both sides compute: both divided by the greatest common divisor g, with its sign -/
theorem low_of {a b g : Int} {x y : Int} (hb : b ≠ 0) (hg : g = if b < 0 then -((a.natAbs.gcd b.natAbs : Nat) : Int) else ((a.natAbs.gcd b.natAbs : Nat) : Int)) (hx : x = a.fdiv g) (hy : y = b.fdiv g) : D.tup [.int x, .int y] = qD (Rat.divInt a b) := by
  have hn : (a.natAbs.gcd b.natAbs) ≠ 0 := by
    intro z
    have := Nat.eq_zero_of_gcd_eq_zero_right z
    omega
  obtain ⟨c, hc⟩ : ((a.natAbs.gcd b.natAbs : Nat) : Int) ∣ a := Int.ofNat_dvd_left.mpr (Nat.gcd_dvd_left _ _)
  obtain ⟨d, hd⟩ : ((a.natAbs.gcd b.natAbs : Nat) : Int) ∣ b := Int.ofNat_dvd_left.mpr (Nat.gcd_dvd_right _ _)
  have comm : Int.gcd b a = a.natAbs.gcd b.natAbs := Nat.gcd_comm _ _
  unfold qD
  rw [Rat.num_divInt, Rat.den_divInt, comm, if_neg hb]
  generalize hG : (a.natAbs.gcd b.natAbs) = G at *
  have hG0 : (G : Int) ≠ 0 := by omega
  have hGp : 0 < (G : Int) := by omega
  have hbn : ((b.natAbs / G : Nat) : Int) = d.natAbs := by
    have : b.natAbs = G * d.natAbs := by rw [hd, Int.natAbs_mul, Int.natAbs_natCast]
    rw [this, Nat.mul_div_cancel_left _ (by omega)]
  rw [hbn]
  by_cases h : b < 0
  · rw [if_pos h] at hg
    have hs : b.sign = -1 := Int.sign_eq_neg_one_of_neg h
    have e1 : a.fdiv g = -c := Int.fdiv_eq_of_eq_mul_right (by omega) (by rw [hg, Int.neg_mul_neg]; exact hc)
    have e2 : b.fdiv g = -d := Int.fdiv_eq_of_eq_mul_right (by omega) (by rw [hg, Int.neg_mul_neg]; exact hd)
    have hdn : d < 0 := by
      rcases Int.lt_or_le d 0 with z | z
      · exact z
      · have := Int.mul_nonneg (Int.le_of_lt hGp) z
        omega
    rw [hx, hy, e1, e2, hs]
    have e3 : -1 * a / (G : Int) = -c := by
      have : -1 * a = (G : Int) * (-c) := by rw [Int.mul_neg, ← hc]; omega
      rw [this, Int.mul_ediv_cancel_left _ hG0]
    rw [e3]
    have : -d = (d.natAbs : Int) := by omega
    rw [this]
  · rw [if_neg h] at hg
    have hs : b.sign = 1 := Int.sign_eq_one_of_pos (by omega)
    have e1 : a.fdiv g = c := Int.fdiv_eq_of_eq_mul_right (by omega) (by rw [hg]; exact hc)
    have e2 : b.fdiv g = d := Int.fdiv_eq_of_eq_mul_right (by omega) (by rw [hg]; exact hd)
    have hdn : 0 < d := by
      rcases Int.lt_or_le 0 d with z | z
      · exact z
      · have : (G : Int) * d ≤ 0 := Int.mul_nonpos_of_nonneg_of_nonpos (Int.le_of_lt hGp) z
        omega
    rw [hx, hy, e1, e2, hs]
    have e3 : 1 * a / (G : Int) = c := by
      have : 1 * a = (G : Int) * c := by rw [← hc]; omega
      rw [this, Int.mul_ediv_cancel_left _ hG0]
    rw [e3]
    have : d = (d.natAbs : Int) := by omega
    rw [← this]
theorem den_ne (q : Rat) : (q.den : Int) ≠ 0 := by have := q.den_nz; omega
theorem q_add (p q : Rat) : Rat.divInt (p.num * q.den + q.num * p.den) (p.den * q.den) = p + q := by
  rw [← Rat.divInt_add_divInt _ _ (den_ne p) (den_ne q), Rat.num_divInt_den, Rat.num_divInt_den]
theorem q_mul (p q : Rat) : Rat.divInt (p.num * q.num) (p.den * q.den) = p * q := by
  rw [← Rat.divInt_mul_divInt, Rat.num_divInt_den, Rat.num_divInt_den]
theorem q_neg (q : Rat) : qD (-q) = .tup [.int (-q.num), .int q.den] := by unfold qD; rw [Rat.neg_num, Rat.neg_den]
theorem q_sub (p q : Rat) : Rat.divInt (p.num * q.den - q.num * p.den) (p.den * q.den) = p - q := by
  rw [Rat.sub_eq_add_neg, ← q_add, Rat.neg_num, Rat.neg_den, Int.neg_mul, Int.sub_eq_add_neg]
theorem q_div (p q : Rat) : Rat.divInt (p.num * q.den) (p.den * q.num) = p / q := by
  rw [Rat.div_def, ← Rat.divInt_mul_divInt, Rat.num_divInt_den]
  congr 1
  rw [← Rat.inv_divInt, Rat.num_divInt_den]
theorem num_zero {q : Rat} : q.num = 0 ↔ q = 0 := Rat.num_eq_zero
/-- a fraction made of small numbers is small -/
theorem sm_divInt {b : Nat} {i j : Int} (hj : j ≠ 0) (h : Sm b i) (g : Sm b j) : SmQ b (Rat.divInt i j) := by
  unfold SmQ Sm at *
  rw [Rat.num_divInt, Rat.den_divInt, if_neg hj]
  constructor
  · rw [Int.natAbs_ediv_of_dvd ?_]
    · rw [Int.natAbs_mul, Int.natAbs_sign_of_ne_zero hj, Nat.one_mul]
      exact Nat.lt_of_le_of_lt (Nat.div_le_self _ _) h
    · exact Int.dvd_mul_of_dvd_right (Int.gcd_dvd_right ..)
  · rw [Int.natAbs_natCast]
    exact Nat.lt_of_le_of_lt (Nat.div_le_self _ _) g
end Ab
set_option Elab.async false
set_option linter.all false
set_option maxRecDepth 100000
set_option autoImplicit false
/-! What the operations do on known values; the stepping of a reading. -/
namespace Ab
open PySem PySem.Spec PyProof.Rows
section
variable {st : Store} {Q : D → Store → Prop} {i j : Int} {a b neg : Bool} {xs ys : List D} {x y : D} {n : Nat} {s t : Str} {ns : List Int} {kvs : List (L2.Key × D)}
theorem eqA_int : eqA neg (.int i) (.int j) st Q = Q (.bl (decide (i = j) != neg)) st := propext <| by
  have e : PyData.eqv (.int i) (.int j) = decide (i = j) := by simp only [PyData.eqv]; exact (Bool.beq_eq_decide_eq i j)
  constructor
  · intro ⟨x, y, h1, h2, _, _, q⟩
    simp only [look, toPy, Option.some.injEq] at h1 h2
    subst h1 h2
    rw [e] at q; exact q
  · intro q
    exact ⟨.int i, .int j, rfl, rfl, rfl, rfl, by rw [e]; exact q⟩
theorem eqA_bl : eqA neg (.bl a) (.bl b) st Q = Q (.bl (decide (a = b) != neg)) st := propext <| by
  have e : PyData.eqv (.bool a) (.bool b) = decide (a = b) := by simp only [PyData.eqv]; exact (Bool.beq_eq_decide_eq a b)
  constructor
  · intro ⟨x, y, h1, h2, _, _, q⟩
    simp only [look, toPy, Option.some.injEq] at h1 h2
    subst h1 h2
    rw [e] at q; exact q
  · intro q
    exact ⟨.bool a, .bool b, rfl, rfl, rfl, rfl, by rw [e]; exact q⟩
theorem eqA_nil : eqA neg (.lst []) (.lst []) st Q = Q (.bl (!neg)) st := propext <| by
  constructor
  · intro ⟨x, y, h1, h2, _, _, q⟩
    simp only [look, toPy, toPys, Option.map_some, Option.some.injEq] at h1 h2
    subst h1 h2
    simpa [PyData.eqv, PyData.eqvAll] using q
  · intro q
    exact ⟨.list [], .list [], rfl, rfl, by decide +kernel, by decide +kernel, by simpa [PyData.eqv, PyData.eqvAll] using q⟩
theorem eqA_str (hs : PyData.strOk s = true) (ht : PyData.strOk t = true) : eqA neg (.str s) (.str t) st Q = Q (.bl ((s == t) != neg)) st := propext <| by
  constructor
  · intro ⟨x, y, h1, h2, _, _, q⟩
    simp only [look, toPy, Option.some.injEq] at h1 h2
    subst h1 h2
    simpa only [PyData.eqv] using q
  · intro q
    refine ⟨.str s, .str t, rfl, rfl, ?_, ?_, by simpa only [PyData.eqv] using q⟩
    · simp [SeqAt.shaped, PyData.canLay0, hs, PyData.depth]
    · simp [SeqAt.shaped, PyData.canLay0, ht, PyData.depth]
theorem ix_tup : ixA (.tup xs) (.int i) st Q = ∃ d, L2.atI xs i = some d ∧ Q d st := propext ⟨fun ⟨_, d, h, h1, h2⟩ => by cases h; exact ⟨d, h1, h2⟩, fun ⟨d, h1, h2⟩ => ⟨_, d, rfl, h1, h2⟩⟩
theorem ix_lst : ixA (.lst xs) (.int i) st Q = ∃ d, L2.atI xs i = some d ∧ Q d st := propext ⟨fun ⟨_, d, h, h1, h2⟩ => by cases h; exact ⟨d, h1, h2⟩, fun ⟨d, h1, h2⟩ => ⟨_, d, rfl, h1, h2⟩⟩
theorem ix_scr : ixA (.scr ns) (.int i) st Q = ∃ d, L2.atI (ns.map D.int) i = some d ∧ Q d st := propext ⟨fun ⟨_, d, h, h1, h2⟩ => by cases h; exact ⟨d, h1, h2⟩, fun ⟨d, h1, h2⟩ => ⟨_, d, rfl, h1, h2⟩⟩
theorem ref_seq : seqOf st (.ref n) = some xs ↔ st[n]? = some (.lst xs) := by
  show (match st[n]? with | some (.lst xs) => some xs | _ => none) = some xs ↔ _
  cases h : st[n]? with
  | none => simp
  | some o => cases o <;> simp
theorem ix_ref : ixA (.ref n) (.int i) st Q = ∃ xs d, st[n]? = some (.lst xs) ∧ L2.atI xs i = some d ∧ Q d st :=
  propext ⟨fun ⟨zs, d, h, h1, h2⟩ => ⟨zs, d, ref_seq.mp h, h1, h2⟩, fun ⟨zs, d, h, h1, h2⟩ => ⟨zs, d, ref_seq.mpr h, h1, h2⟩⟩
theorem at_nat {α : Type} {l : List α} {k : Nat} : L2.atI l (k : Int) = l[k]? := by
  unfold L2.atI L2.ixN
  rw [if_pos (Int.natCast_nonneg _)]
  by_cases h : (k : Int) < l.length
  · rw [if_pos h]; simp
  · rw [if_neg h]
    simp
    omega
theorem at_0 {α : Type} {x : α} {r : List α} : L2.atI (x :: r) 0 = some x := at_nat (k := 0)
theorem at_1 {α : Type} {x y : α} {r : List α} : L2.atI (x :: y :: r) 1 = some y := at_nat (k := 1)
theorem at_2 {α : Type} {x y z : α} {r : List α} : L2.atI (x :: y :: z :: r) 2 = some z := at_nat (k := 2)
theorem at_3 {α : Type} {x y z u : α} {r : List α} : L2.atI (x :: y :: z :: u :: r) 3 = some u := at_nat (k := 3)
theorem add_int : addA b (.int i) (.int j) st Q = Q (.int (i + j)) st := rfl
theorem add_tup : addA b (.tup xs) (.tup ys) st Q = (xs.length + ys.length ≤ sizeLine ∧ Q (.tup (xs ++ ys)) st) := rfl
theorem add_str : addA b (.str s) (.str t) st Q = (s.length + t.length ≤ sizeLine ∧ Q (.str (s ++ t)) st) := rfl
theorem lst_lst : lstOf st (.lst xs) = some ys ↔ xs = ys := by simp [lstOf]
theorem add_lst : addA b (.lst xs) (.lst ys) st Q = (xs.length + ys.length ≤ sizeLine ∧ newL b (xs ++ ys) st Q) := propext ⟨fun ⟨_, _, h, h1, h2⟩ => by cases h; cases h1; exact h2, fun h => ⟨_, _, rfl, rfl, h⟩⟩
theorem add_refl : addA b (.ref n) (.lst ys) st Q = ∃ xs, st[n]? = some (.lst xs) ∧ xs.length + ys.length ≤ sizeLine ∧ newL b (xs ++ ys) st Q := propext ⟨fun ⟨_, _, h, h1, h2⟩ => by cases h1; exact ⟨_, ref_seq.mp h, h2⟩, fun ⟨_, h, h2⟩ => ⟨_, _, ref_seq.mpr h, rfl, h2⟩⟩
theorem mul_int : mulA b (.int i) (.int j) st Q = (MulOk i j ∧ Q (.int (i * j)) st) := rfl
theorem sub_int : subA (.int i) (.int j) st Q = Q (.int (i - j)) st := propext ⟨fun h => h.2, fun h => ⟨True.intro, h⟩⟩
theorem fdiv_int : fdivA (.int i) (.int j) st Q = (DivOk i j ∧ Q (.int (i.fdiv j)) st) := rfl
theorem mod_int : modA (.int i) (.int j) st Q = (j ≠ 0 ∧ Q (.int (i.fmod j)) st) := rfl
theorem pow_int : powA (.int i) (.int j) st Q = (PowOk i j ∧ Q (.int (i ^ j.toNat)) st) := rfl
theorem lt_int : ltA (.int i) (.int j) st Q = Q (.bl (decide (i < j))) st := rfl
theorem le_int : leA (.int i) (.int j) st Q = Q (.bl (decide (i ≤ j))) st := rfl
theorem gt_int : gtA (.int i) (.int j) st Q = Q (.bl (decide (j < i))) st := rfl
theorem ge_int : geA (.int i) (.int j) st Q = Q (.bl (decide (j ≤ i))) st := rfl
theorem neg_int : negA (.int i) st Q = Q (.int (-i)) st := rfl
theorem abs_int : absA [.int i] st Q = Q (.int i.natAbs) st := rfl
theorem gcd_int : gcdA [.int i, .int j] st Q = Q (.int (Nat.gcd i.natAbs j.natAbs : Nat)) st := rfl
theorem max2_int : max2A [.int i, .int j] st Q = Q (.int (max i j)) st := rfl
theorem min2_int : min2A [.int i, .int j] st Q = Q (.int (min i j)) st := rfl
theorem int_int : intA [.int i] st Q = Q (.int i) st := rfl
theorem int_bl : intA [.bl b] st Q = Q (.int (if b then 1 else 0)) st := rfl
theorem int_str : intA [.str s] st Q = ∃ n, PySem.intText? s = some n ∧ s.length ≤ 640 ∧ Q (.int n) st := rfl
theorem str_int : strA [.int i] st Q = (i.natAbs.log2 < 1920 ∧ Q (.str (toString i)) st) := rfl
theorem str_str : strA [.str s] st Q = Q (.str s) st := rfl
theorem is_non : isA neg x .non st Q = Q (.bl (isNonD x != neg)) st := rfl
theorem is_bl : isA neg (.bl a) (.bl b) st Q = Q (.bl (decide (a = b) != neg)) st := rfl
theorem isi_ty {m : String} : isiA [x, .ty m] st Q = ∃ T, tyName st x = some T ∧ m ∈ isiNs ∧ Q (.bl (isiB T m)) st := rfl
theorem in_int : ("int" ∈ isiNs) = True := eq_true (by decide)
theorem in_bool : ("bool" ∈ isiNs) = True := eq_true (by decide)
theorem in_str : ("str" ∈ isiNs) = True := eq_true (by decide)
theorem in_tuple : ("tuple" ∈ isiNs) = True := eq_true (by decide)
theorem in_list : ("list" ∈ isiNs) = True := eq_true (by decide)
theorem in_dict : ("dict" ∈ isiNs) = True := eq_true (by decide)
theorem ty_non : tyName st .non = some "NoneType" := rfl
theorem ty_bl : tyName st (.bl b) = some "bool" := rfl
theorem ty_int : tyName st (.int i) = some "int" := rfl
theorem ty_str : tyName st (.str s) = some "str" := rfl
theorem ty_tup : tyName st (.tup xs) = some "tuple" := rfl
theorem ty_lst : tyName st (.lst xs) = some "list" := rfl
theorem ty_dk : tyName st (.dk kvs) = some "dict" := rfl
theorem ty_scr : tyName st (.scr ns) = some "list" := rfl
theorem len_tup : lenA [.tup xs] st Q = Q (.int xs.length) st := propext ⟨fun ⟨_, h, h1⟩ => by cases h; exact h1, fun h => ⟨_, rfl, h⟩⟩
theorem len_lst : lenA [.lst xs] st Q = Q (.int xs.length) st := propext ⟨fun ⟨_, h, h1⟩ => by cases h; exact h1, fun h => ⟨_, rfl, h⟩⟩
theorem len_scr : lenA [.scr ns] st Q = Q (.int ns.length) st := propext ⟨fun ⟨_, h, h1⟩ => by cases h; rw [List.length_map] at h1; exact h1, fun h => ⟨_, rfl, by rw [List.length_map]; exact h⟩⟩
theorem len_ref : lenA [.ref n] st Q = ∃ xs, st[n]? = some (.lst xs) ∧ Q (.int xs.length) st := propext ⟨fun ⟨_, h, h1⟩ => ⟨_, ref_seq.mp h, h1⟩, fun ⟨_, h, h1⟩ => ⟨_, ref_seq.mpr h, h1⟩⟩
theorem len_dk : lenA [.dk kvs] st Q = Q (.int kvs.length) st := rfl
theorem len_str : lenA [.str s] st Q = (s.length ≤ sizeLine ∧ Q (.int s.length) st) := rfl
theorem new_f : newL false xs st Q = Q (.lst xs) st := rfl
theorem new_t : newL true xs st Q = Q (.ref st.length) (st ++ [.lst xs]) := rfl
theorem set_ref {P : Store → Prop} {d : D} : setA (.ref n) (.int i) d st P = ∃ xs j, st[n]? = some (.lst xs) ∧ L2.ixN xs.length i = some j ∧ P (st.set n (.lst (xs.set j d))) := rfl
theorem app_ref {d : D} : appendA (.ref n) [d] st Q = ∃ xs, st[n]? = some (.lst xs) ∧ xs.length < sizeLine ∧ Q .non (st.set n (.lst (xs ++ [d]))) := rfl
theorem ext_ref : extendA (.ref n) [.lst ys] st Q = ∃ xs, st[n]? = some (.lst xs) ∧ xs.length + ys.length ≤ sizeLine ∧ Q .non (st.set n (.lst (xs ++ ys))) := propext ⟨fun ⟨_, _, h, h1, h2⟩ => by cases h1; exact ⟨_, h, h2⟩, fun ⟨_, h, h2⟩ => ⟨_, _, h, rfl, h2⟩⟩
theorem ref_lsq : lsqOf st (.ref n) = some xs ↔ st[n]? = some (.lst xs) := ref_seq
theorem ty_ref : tyA "list" st (.ref n) = ∃ xs, st[n]? = some (.lst xs) := propext ⟨fun ⟨_, xs, h⟩ => ⟨xs, ref_lsq.mp h⟩, fun ⟨xs, h⟩ => ⟨rfl, xs, ref_lsq.mpr h⟩⟩
theorem src_tup {s : Src} : srcOf st (.tup xs) = some s ↔ s = .fixed xs := by simp [srcOf, eq_comm]
theorem src_lst {s : Src} : srcOf st (.lst xs) = some s ↔ s = .fixed xs := by simp [srcOf, eq_comm]
theorem src_scr {s : Src} : srcOf st (.scr ns) = some s ↔ s = .fixed (ns.map D.int) := by simp [srcOf, eq_comm]
theorem all_lst {bs : List Bool} : allA [.lst (bs.map D.bl)] st Q = Q (.bl (bs.all id)) st := propext ⟨fun ⟨x, cs, h1, h2, h3⟩ => by
  cases h1
  have h2 : bs.map D.bl = cs.map D.bl := Option.some.inj h2
  have : bs = cs := (List.map_inj_right (fun p q e => by cases e; rfl)).mp h2
  subst this; exact h3, fun h => ⟨_, bs, rfl, rfl, h⟩⟩
end
theorem ex2 {α β : Type} {a : α} {b : β} {P : α → β → Prop} : (∃ x y, (a = x ∧ b = y) ∧ P x y) = P a b := propext ⟨fun ⟨_, _, ⟨e1, e2⟩, h⟩ => by subst e1 e2; exact h, fun h => ⟨_, _, ⟨rfl, rfl⟩, h⟩⟩
theorem ex3 {α : Type} {a b c : α} {P : α → α → α → Prop} : (∃ x y z, (a = x ∧ b = y ∧ c = z) ∧ P x y z) = P a b c := propext ⟨fun ⟨_, _, _, ⟨e1, e2, e3⟩, h⟩ => by subst e1 e2 e3; exact h, fun h => ⟨_, _, _, ⟨rfl, rfl, rfl⟩, h⟩⟩
theorem exB {a : Bool} {P : Bool → Prop} : (∃ b, D.bl a = D.bl b ∧ P b) = P a := propext ⟨fun ⟨_, e, h⟩ => by cases e; exact h, fun h => ⟨_, rfl, h⟩⟩
theorem iteB {b : Bool} {A B : Prop} : (if b = true then A else B) = ((b = true → A) ∧ (b = false → B)) := propext <| by cases b <;> simp
/-! ### comprehensions and loops -/
/-- a comprehension that changes nothing: p tells which items are taken, g what is made of them -/
theorem compL_ok {tg : Tg} {tt : AB} {te : AE} {vs : List Nat} {σ0 : List (Option D)} {Q : List D → Store → Prop} {st : Store} {p : D → Bool} {g : D → D} : ∀ (l acc : List D),
    (∀ d ∈ l, ∃ σ1, Tg.put tg d (wipeD σ0 vs) = some σ1 ∧ ∀ (A : D → Store → Prop) (B : Store → Prop), (p d = true → A (g d) st) → (p d = false → B st) → tt ⟨σ1, st⟩ (fun b S2 => if b = true then te S2 (fun y S3 => A y S3.st) noX else B S2.st) noX) →
    acc.length + l.length ≤ sizeLine → Q (acc ++ (l.filter p).map g) st → compL tg tt te vs σ0 Q l acc st
  | [], acc, _, _, h => by simpa [compL] using h
  | d :: r, acc, step, hl, h => by
    obtain ⟨σ1, h1, h2⟩ := step d (by simp)
    rw [List.length_cons] at hl
    refine ⟨σ1, h1, h2 (fun y st' => acc.length < sizeLine ∧ compL tg tt te vs σ0 Q r (acc ++ [y]) st') (fun st' => compL tg tt te vs σ0 Q r acc st') (fun hp => ⟨by omega, ?_⟩) (fun hp => ?_)⟩
    · refine compL_ok r (acc ++ [g d]) (fun e he => step e (by simp [he])) (by rw [List.length_append]; simp; omega) ?_
      rw [List.filter_cons_of_pos hp] at h
      simpa using h
    · refine compL_ok r acc (fun e he => step e (by simp [he])) (by omega) ?_
      rw [List.filter_cons_of_neg (by simp [hp])] at h
      exact h
theorem forL_ok {g : AG} {tb : AT} {E : AK} {I : AS → Prop} : ∀ (l : List D), (∀ d ∈ l, ∀ (K : AS → Prop), (∀ S, I S → K S) → ∀ S, I S → g d S (fun S1 => tb { E with nx := K, ct := K, bk := E.nx } S1) E.xe) → (∀ S, I S → E.nx S) → ∀ S, I S → forL g tb E l S
  | [], _, h, S, hS => h S hS
  | d :: r, step, h, S, hS => step d (by simp) _ (fun S' hS' => forL_ok r (fun e he => step e (by simp [he])) h S' hS') S hS
theorem rg_mem {lo : Int} {n : Nat} {d : D} (h : d ∈ rgD lo n) : ∃ i : Nat, i < n ∧ d = .int (lo + i) := by
  unfold rgD at h
  obtain ⟨i, h1, h2⟩ := List.mem_map.mp h
  exact ⟨i, List.mem_range.mp h1, h2.symm⟩
theorem rg_len {lo : Int} {n : Nat} : (rgD lo n).length = n := by simp [rgD]
theorem ix_str {s : Str} {i : Int} {st : Store} {Q : D → Store → Prop} : ixA (.str s) (.int i) st Q = (s.length ≤ sizeLine ∧ ∃ c, L2.atI s.cps.toList i = some c ∧ Q (.str ⟨#[c]⟩) st) := rfl
theorem sl_str {s : Str} {lo hi : Option Int} {b : Bool} {st : Store} {Q : D → Store → Prop} : slA b (.str s) lo hi st Q = (s.length ≤ sizeLine ∧ Q (.str (L2.cutS s lo hi)) st) := rfl
theorem sl_tup {xs : List D} {lo hi : Option Int} {b : Bool} {st : Store} {Q : D → Store → Prop} : slA b (.tup xs) lo hi st Q = Q (.tup (cutD xs lo hi)) st := rfl
theorem sl_lst {xs : List D} {lo hi : Option Int} {b : Bool} {st : Store} {Q : D → Store → Prop} : slA b (.lst xs) lo hi st Q = newL b (cutD xs lo hi) st Q := propext ⟨fun ⟨_, h, h1⟩ => by cases h; exact h1, fun h => ⟨_, rfl, h⟩⟩
theorem sl_scr {ns : List Int} {lo hi : Option Int} {b : Bool} {st : Store} {Q : D → Store → Prop} : slA b (.scr ns) lo hi st Q = newL b (cutD (ns.map D.int) lo hi) st Q := propext ⟨fun ⟨_, h, h1⟩ => by cases h; exact h1, fun h => ⟨_, rfl, h⟩⟩
/-- s[i:i+1] is s[i] -/
theorem cutS_one {s : Str} {i : Nat} (h : i < s.length) : L2.cutS s (some (i : Int)) (some ((i : Int) + 1)) = ⟨#[s.cps[i]]⟩ := by
  unfold L2.cutS
  rw [show ((i : Int) + 1) = ((i + 1 : Nat) : Int) by omega, HT.sIx_nat, HT.sIx_nat]
  have h' : i < s.cps.size := h
  have e1 : min i s.length = i := Nat.min_eq_left (Nat.le_of_lt h)
  have e2 : min (i + 1) s.length = i + 1 := Nat.min_eq_left h
  rw [e1, e2, show i + 1 - i = 1 by omega]
  congr 1
  apply Array.ext'
  rw [List.toList_toArray]
  rw [List.drop_eq_getElem_cons (by simpa using h')]
  simp
  rfl
theorem str_at {s : Str} {i : Nat} (h : i < s.length) : L2.atI s.cps.toList (i : Int) = some (s.cps[i]'h) := by
  rw [at_nat]
  have h' : i < s.cps.size := h
  rw [List.getElem?_eq_getElem (by simpa using h')]
  rfl
theorem strOk_at {s : Str} {i : Nat} (h : i < s.length) (ho : PyData.strOk s = true) : PyData.strOk ⟨#[s.cps[i]'h]⟩ = true := by
  unfold PyData.strOk at *
  simp at *
  exact ho i h
theorem cut_map {α : Type} {f : α → D} {l : List α} {lo hi : Option Int} : cutD (l.map f) lo hi = ((l.drop (HT.sIx l.length 0 lo)).take (HT.sIx l.length l.length hi - HT.sIx l.length 0 lo)).map f := by
  unfold cutD
  rw [List.length_map, List.map_take, List.map_drop]
theorem sum_lst {ns : List Int} {st : Store} {Q : D → Store → Prop} : sumA [.lst (ns.map D.int)] st Q = Q (.int ns.sum) st := propext ⟨fun ⟨x, ms, h1, h2, h3⟩ => by
  cases h1
  have h2 : ns.map D.int = ms.map D.int := Option.some.inj h2
  have : ns = ms := (List.map_inj_right (fun p q e => by cases e; rfl)).mp h2
  subst this; exact h3, fun h => ⟨_, ns, rfl, rfl, h⟩⟩
theorem ex2n {α β : Type} {a : α} {b : β} {P : α → β → Prop} : (∃ x y, (a = x ∧ y = b) ∧ P x y) = P a b := propext ⟨fun ⟨_, _, ⟨e1, e2⟩, h⟩ => by subst e1 e2; exact h, fun h => ⟨_, _, ⟨rfl, rfl⟩, h⟩⟩
/-! ### what is kept behind a def -/
mutual
def noRef : D → Bool
  | .ref _ => false
  | .tup xs => noRefs xs
  | .lst xs => noRefs xs
  | .dk kvs => noRefK kvs
  | .ins _ fs => noRefF fs
  | .exc _ _ _ fs => noRefF fs
  | _ => true
def noRefs : List D → Bool
  | [] => true
  | x :: r => noRef x && noRefs r
def noRefK : List (L2.Key × D) → Bool
  | [] => true
  | (_, x) :: r => noRef x && noRefK r
def noRefF : List (Str × D) → Bool
  | [] => true
  | (_, x) :: r => noRef x && noRefF r
end
mutual
theorem fz_self {st : Store} {n : Nat} : ∀ {d : D}, noRef d = true → Fz st n d d
  | .non, _ => .non
  | .bl b, _ => .bl b
  | .int i, _ => .int i
  | .str s, _ => .str s
  | .tup xs, h => .tup (fz_selfs (by simpa only [noRef] using h))
  | .lst xs, h => .lst (fz_selfs (by simpa only [noRef] using h))
  | .dk kvs, h => .dk (fz_selfK (by simpa only [noRef] using h))
  | .scr ns, _ => .scr ns
  | .ref _, h => by simp [noRef] at h
  | .ins C fs, h => .ins (fz_selfF (by simpa only [noRef] using h))
  | .adr a, _ => .adr a
  | .ty n, _ => .ty n
  | .exc a c dd fs, h => .exc (fz_selfF (by simpa only [noRef] using h))
theorem fz_selfs {st : Store} {n : Nat} : ∀ {xs : List D}, noRefs xs = true → FzAll st n xs xs
  | [], _ => .nil
  | x :: r, h => by
    simp only [noRefs, Bool.and_eq_true] at h
    exact .cons (fz_self h.1) (fz_selfs h.2)
theorem fz_selfK {st : Store} {n : Nat} : ∀ {xs : List (L2.Key × D)}, noRefK xs = true → FzKs st n xs xs
  | [], _ => .nil
  | (_, x) :: r, h => by
    simp only [noRefK, Bool.and_eq_true] at h
    exact .cons (fz_self h.1) (fz_selfK h.2)
theorem fz_selfF {st : Store} {n : Nat} : ∀ {xs : List (Str × D)}, noRefF xs = true → FzFs st n xs xs
  | [], _ => .nil
  | (_, x) :: r, h => by
    simp only [noRefF, Bool.and_eq_true] at h
    exact .cons (fz_self h.1) (fz_selfF h.2)
end
/-- nothing in the store's object points into the store -/
def noRefO : SO → Bool
  | .lst xs => noRefs xs
  | .dk kvs => noRefK kvs
  | .ins _ fs => noRefF fs
  | .gone => true
theorem fzO_self {st : Store} {n : Nat} {o : SO} (h : noRefO o = true) : FzO st n o := by
  cases o with
  | lst xs => exact fz_selfs h
  | dk kvs => exact fz_selfK h
  | ins C fs => exact fz_selfF h
  | gone => trivial
/-- new things dropped -/
theorem ret_cut {st0 l : Store} {QA : D → Store → Prop} {d : D} (h : noRef d = true) (q : QA d st0) : RetQ st0 QA d (st0 ++ l) :=
  .inr ⟨d, fz_self h, ⟨by rw [List.length_append]; omega, fun m hm => .inl (List.getElem?_append_left hm)⟩, by rw [List.take_left]; exact q⟩
/-- .., one of the old ones changed -/
theorem ret_cut1 {st0 l : Store} {QA : D → Store → Prop} {d : D} {n : Nat} {o : SO} (h : noRef d = true) (ho : noRefO o = true) (q : QA d (st0.set n o)) : RetQ st0 QA d (st0.set n o ++ l) :=
  .inr ⟨d, fz_self h, ⟨by rw [List.length_append, List.length_set]; omega, fun m hm => by
    rw [List.getElem?_append_left (by rw [List.length_set]; exact hm)]
    by_cases e : n = m
    · subst e
      exact .inr ⟨o, List.getElem?_set_self hm, fzO_self ho⟩
    · exact .inl (List.getElem?_set_ne e)⟩, by rw [List.take_left' (by rw [List.length_set])]; exact q⟩
/-! ### kinds that are known whatever the store -/
def plainB : D → Bool
  | .non => true
  | .bl _ => true
  | .int _ => true
  | .str _ => true
  | .tup _ => true
  | .lst _ => true
  | .scr _ => true
  | .dk _ => true
  | _ => false
theorem plainB_ty {st : Store} {d : D} (h : plainB d = true) : ∃ T, tyName st d = some T := by
  cases d <;> first | exact ⟨_, rfl⟩ | cases h
end Ab
set_option Elab.async false
set_option linter.all false
set_option maxRecDepth 100000
set_option autoImplicit false
/-! The law's start. -/
namespace Ab
open PySem PySem.Spec PyProof.Rows L2
section
variable {P : Program} {w : World} {K : PySem.W.Frag} {mg : Str → Option Value} {base : Heap}
/-- a promise that asks what can't be -/
theorem cal_none {x : Str} {st : Stmt} {f : Addr} {fd : FuncData} {ps : List Str} {k : Nat} {asp : ASp} (F : Fun K x x st f fd) (hm : mg x = some (.ref f))
    (hbd : ∀ (kV doc pm : Value) (an : Option Addr) (cdv ct : Value) (us : List Value), us.length = ps.length → bindArgs (PySem.W.fnOf x x (defArgs st) (defBody st) (defScope st) .none kV doc pm an cdv ct) ⟨us, []⟩ = pure (ps.zip us))
    (no : ∀ ds st QA EA, ¬ asp ds st QA EA) : Cal P w K mg base x st ps k asp :=
  ⟨⟨f, fd, F, hm, F.binds hbd, spOf_len, fun A outer s H args us vs Q E _ _ _ _ ⟨_, _, _, _, _, _, _, _, z, _⟩ => absurd z (no _ _ _ _)⟩⟩
theorem law_start {H : Hp} {a : Addr} {ns : List Int} {asp : ASp} (hS : SqL K H a (ns.map V.int)) (h : asp [.scr ns] [] (fun d _ => d = .bl true) fun _ _ => False) : spOf K 1 asp [.ref a] H (fun v _ => v = .bl true) fun _ _ _ => False := by
  have nl : ¬ Lv ⟨[], []⟩ [] a := fun l => by
    rcases l with ⟨n, o, h1, _⟩ | l
    · simp at h1
    · simp at l
  refine ⟨⟨[], []⟩, [], [.scr ns], _, _, rfl, ⟨rfl, List.nodup_nil, fun n o a h => by simp at h, fun a h => by simp at h, fun a h => by simp at h⟩, .cons (.scr (hS.imp (fun z => ⟨z, nl⟩) fun z => z)) .nil, h, fun αs' v H' d st' s x r e => ?_, fun _ _ _ _ _ _ _ _ _ z => z⟩
  subst e
  cases r
  rfl
theorem law_out {H : Hp} {s s' : Shared} {e : Value} {outer : List Env} (h : L2.CX P w outer H s (fun _ _ _ => False) e s') : False := by
  obtain ⟨_, _, _, _, _, _, _, _, _, _, _, _, z⟩ := h
  exact z
end
end Ab
set_option Elab.async false
set_option linter.all false
set_option maxRecDepth 100000
set_option autoImplicit false
/-! Constants of the module; zip, enumerate, list(range(..)). -/
namespace Ab
open PySem PySem.Spec PyProof.Rows L2

/-! ### constants -/
structure ConstOk (K : PySem.W.Frag) (mg : Str → Option Value) (x : Str) (d : D) : Prop where
  ex : ∃ u v, mg x = some u ∧ L2.RelV v u ∧ ∀ αs L H, Rp K αs L H v d
section
variable {X : Cx} {W : WX} {x : Str} {d : D} {p : Pos} {K : PySem.W.Frag} {mg : Str → Option Value}
theorem j_const (hg : Gl X x) (k : ConstOk X.K X.mg x d) (hdb : (x == ("__debug__" : Str)) = false := by decide) : JE X W (.Name x p) (aC d) := by
  obtain ⟨u, v, h1, h2, h3⟩ := k.ex
  exact j_gc hg h1 h2 h3 hdb
theorem rpIntsK {αs : Al} {L : Addr → Prop} {H : Hp} (is : List Int) : RpAll K αs L H (is.map V.int) (is.map D.int) := rpInts is
theorem const_ints {a : Addr} {is : List Int} {dct : Option Addr} {its : Array Value} {n : Nat} {sl : Array (Option Value)} (hm : mg x = some (.ref a)) (l : K.lookup a = some ⟨.type "tuple", dct, .seq its n, sl⟩) (v : Vals (is.map V.int) its.toList) (z : its.size ≤ sizeLine) :
    ConstOk K mg x (.tup (is.map D.int)) := ⟨_, .ref a, hm, rfl, fun αs L H => .tup (.inr ⟨_, its, n, l, rfl, rfl, z, v⟩) (rpInts is)⟩
theorem const_int {i : Int} {t : Tok} (hm : mg x = some (.int i t)) : ConstOk K mg x (.int i) := ⟨_, .int i, hm, ⟨_, rfl⟩, fun _ _ _ => .int i⟩
end

/-! ### zip, enumerate -/
def zipD (xs ys : List D) : List D := List.zipWith (fun x y => .tup [x, y]) xs ys
def enumD (xs : List D) : List D := List.zipWith (fun (i : Nat) x => .tup [.int i, x]) (List.range xs.length) xs
theorem zipD_get {xs ys : List D} {i : Nat} {d : D} (h : (zipD xs ys)[i]? = some d) : ∃ x y, xs[i]? = some x ∧ ys[i]? = some y ∧ d = .tup [x, y] := by
  unfold zipD at h
  rw [List.getElem?_zipWith] at h
  cases h1 : xs[i]? with
  | none => simp [h1] at h
  | some x =>
    cases h2 : ys[i]? with
    | none => simp [h1, h2] at h
    | some y => simp [h1, h2] at h; exact ⟨x, y, rfl, rfl, h.symm⟩
theorem enumD_get {xs : List D} {i : Nat} {d : D} (h : (enumD xs)[i]? = some d) : ∃ x, xs[i]? = some x ∧ d = .tup [.int i, x] := by
  unfold enumD at h
  rw [List.getElem?_zipWith] at h
  cases h2 : xs[i]? with
  | none => simp [h2] at h
  | some x =>
    have hi := (List.getElem?_eq_some_iff.mp h2).1
    rw [List.getElem?_range hi, h2] at h
    simp at h
    exact ⟨x, rfl, h.symm⟩
def srcZip : D → D → Option Src
  | .tup xs, .tup ys => some (.fixed (zipD xs ys))
  | .lst xs, .lst ys => some (.fixed (zipD xs ys))
  | _, _ => none
def srcEnum (st : Store) : D → Option Src
  | .lst xs => some (.fixed (enumD xs))
  | .ref n => match st[n]? with
    | some (.lst xs) => some (.live n xs (enumD xs))
    | _ => none
  | _ => none
def aZip (ta : AA) : AI := fun S Q X => ta S (fun ds S1 => ∃ x y s, ds = [x, y] ∧ srcZip x y = some s ∧ Q s S1) X
def aEnum (ta : AA) : AI := fun S Q X => ta S (fun ds S1 => ∃ x s, ds = [x] ∧ srcEnum S1.st x = some s ∧ Q s S1) X
section
variable {K : PySem.W.Frag} {αs : Al} {st : Store} {H : Hp} {a b : Addr}
theorem new2 {T : Addr} {H' : Hp} {αs' : Al} {st' : Store} {x y : V} {d e : D} (s : SRel K αs' st' H') (hT : H' T = none) (r1 : Rp K αs' (Lv αs' st') H' x d) (r2 : Rp K αs' (Lv αs' st') H' y e) :
    SRel K αs' st' (upd H' T (.tup [x, y])) ∧ Ext αs' st' H' αs' st' (upd H' T (.tup [x, y])) ∧ Rp K αs' (Lv αs' st') (upd H' T (.tup [x, y])) (.ref T) (.tup [d, e]) :=
  ⟨s.new hT, Ext.new s hT, Rp.newT s hT (.cons r1 (.cons r2 .nil))⟩
theorem itz_ok {xs ys : List D} (hx : ∀ αs' hs σ' H' S', (∀ a ∈ hs, H a = none) → Rel K (αs'.hides hs) σ' H' S' → Ext αs st H αs' S'.st H' → ∃ vs ws, SqL K H' a vs ∧ SqL K H' b ws ∧ RpAll K (αs'.hides hs) (Lv (αs'.hides hs) S'.st) H' vs xs ∧ RpAll K (αs'.hides hs) (Lv (αs'.hides hs) S'.st) H' ws ys) :
    ItOk K αs st H (Itz K a b) (.fixed (zipD xs ys)) where
  item := fun αs' hs σ' H' S' hh R' e' _ i d hd => by
    obtain ⟨vs, ws, h1, h2, h3, h4⟩ := hx αs' hs σ' H' S' hh R' e'
    obtain ⟨x, y, g1, g2, e⟩ := zipD_get hd
    subst e
    obtain ⟨v, f1, r1⟩ := h3.get g1
    obtain ⟨w, f2, r2⟩ := h4.get g2
    refine ⟨⟨vs, ws, v, w, h1, h2, f1, f2⟩, fun u H'' yl => ?_⟩
    obtain ⟨T, p, q, e1, hT, e2, k1, k2⟩ := yl
    have z1 := (k1 vs h1).symm.trans f1
    have z2 := (k2 ws h2).symm.trans f2
    cases z1; cases z2
    subst e1 e2
    exact new2 R'.s hT r1 r2
  stop := fun αs' hs σ' H' S' hh R' e' _ => by
    obtain ⟨vs, ws, h1, h2, h3, h4⟩ := hx αs' hs σ' H' S' hh R' e'
    refine ⟨vs, ws, h1, h2, ?_⟩
    show vs.length ≤ (zipD xs ys).length ∨ ws.length ≤ (zipD xs ys).length
    unfold zipD
    rw [List.length_zipWith, h3.length, h4.length]
    omega
theorem itzT_ok {xs ys : List D} (hx : ∀ αs' hs σ' H' S', (∀ a ∈ hs, H a = none) → Rel K (αs'.hides hs) σ' H' S' → Ext αs st H αs' S'.st H' → ∃ vs ws, SqT K H' a vs ∧ SqT K H' b ws ∧ RpAll K (αs'.hides hs) (Lv (αs'.hides hs) S'.st) H' vs xs ∧ RpAll K (αs'.hides hs) (Lv (αs'.hides hs) S'.st) H' ws ys) :
    ItOk K αs st H (RZ.ItzT K a b) (.fixed (zipD xs ys)) where
  item := fun αs' hs σ' H' S' hh R' e' _ i d hd => by
    obtain ⟨vs, ws, h1, h2, h3, h4⟩ := hx αs' hs σ' H' S' hh R' e'
    obtain ⟨x, y, g1, g2, e⟩ := zipD_get hd
    subst e
    obtain ⟨v, f1, r1⟩ := h3.get g1
    obtain ⟨w, f2, r2⟩ := h4.get g2
    refine ⟨⟨vs, ws, v, w, h1, h2, f1, f2⟩, fun u H'' yl => ?_⟩
    obtain ⟨T, p, q, e1, hT, e2, k1, k2⟩ := yl
    have z1 := (k1 vs h1).symm.trans f1
    have z2 := (k2 ws h2).symm.trans f2
    cases z1; cases z2
    subst e1 e2
    exact new2 R'.s hT r1 r2
  stop := fun αs' hs σ' H' S' hh R' e' _ => by
    obtain ⟨vs, ws, h1, h2, h3, h4⟩ := hx αs' hs σ' H' S' hh R' e'
    refine ⟨vs, ws, h1, h2, ?_⟩
    show vs.length ≤ (zipD xs ys).length ∨ ws.length ≤ (zipD xs ys).length
    unfold zipD
    rw [List.length_zipWith, h3.length, h4.length]
    omega
theorem ite_ok {xs : List D} {s : Src} (hs0 : s.its = enumD xs) (hx : ∀ αs' hs σ' H' S', (∀ a ∈ hs, H a = none) → Rel K (αs'.hides hs) σ' H' S' → Ext αs st H αs' S'.st H' → s.stays S'.st → ∃ vs, SqL K H' a vs ∧ RpAll K (αs'.hides hs) (Lv (αs'.hides hs) S'.st) H' vs xs) : ItOk K αs st H (Ite K a) s where
  item := fun αs' hs σ' H' S' hh R' e' hst i d hd => by
    obtain ⟨vs, h1, h2⟩ := hx αs' hs σ' H' S' hh R' e' hst
    rw [hs0] at hd
    obtain ⟨x, g1, e⟩ := enumD_get hd
    subst e
    obtain ⟨v, f1, r1⟩ := h2.get g1
    refine ⟨⟨vs, v, h1, f1⟩, fun u H'' yl => ?_⟩
    obtain ⟨T, p, e1, hT, e2, k1⟩ := yl
    have z1 := (k1 vs h1).symm.trans f1
    cases z1
    subst e1 e2
    exact new2 R'.s hT (.int _) r1
  stop := fun αs' hs σ' H' S' hh R' e' hst => by
    obtain ⟨vs, h1, h2⟩ := hx αs' hs σ' H' S' hh R' e' hst
    refine ⟨vs, h1, ?_⟩
    rw [hs0, enumD, List.length_zipWith, h2.length, List.length_range, Nat.min_self]
    exact Nat.le_refl _
end
section
variable {X : Cx} {W : WX} {e e2 : Expr} {ta : AA} {p pos tpos : Pos} {elts : List Expr} {kk : Nat}
theorem ji_zip (hg : Gl X "zip") (hm : X.mg "zip" = none) (ha : JA X W [e, e2] ta) (hs : starEach [e, e2] X.env = (false, eval e X.env) :: starEach [e2] X.env := by rfl) (hpl : (backTo pos (starEach [e2] X.env)).any (·.1) = false := by rfl) :
    JI X W (.Tuple elts kk tpos) (.Call (.Name "zip" p) [e, e2] [] pos) (aZip ta) := PI.imp (RZ.pi_zipA hg hm ha hs hpl) fun σ H R ⟨αs, S, QA, XA, Re, h, q, xo⟩ => by
  refine ⟨αs, S, _, XA, Re, h, fun αs1 vs H1 ds S1 R1 e1 rv ⟨x, y, s, hd, hz, h1⟩ => ?_, xo⟩
  subst hd
  obtain ⟨v, w, ev, r1, r2⟩ := rp2 rv
  subst ev
  unfold srcZip at hz
  split at hz
  · cases hz
    rename_i xs ys
    cases r1 with
    | @tup a vs _ t1 q1 =>
      cases r2 with
      | @tup b ws _ t2 q2 =>
        exact ⟨a, b, vs, ws, rfl, .inr ⟨t1, t2, q αs1 _ H1 S1 _ R1 e1 (itzT_ok fun αs' hs σ' H' S' hh R' e' => ⟨vs, ws, (e'.carryH R1.s hh).sqT t1, (e'.carryH R1.s hh).sqT t2, q1.mono (e'.carryH R1.s hh), q2.mono (e'.carryH R1.s hh)⟩) h1⟩⟩
  · cases hz
    rename_i xs ys
    cases r1 with
    | @lst a vs _ t1 n1 q1 =>
      cases r2 with
      | @lst b ws _ t2 n2 q2 =>
        exact ⟨a, b, vs, ws, rfl, .inl ⟨.inl (.inl t1), .inl (.inl t2), q αs1 _ H1 S1 _ R1 e1 (itz_ok fun αs' hs σ' H' S' hh R' e' => ⟨vs, ws, .inl (.inl (e'.keep _ _ t1 n1)), .inl (.inl (e'.keep _ _ t2 n2)), q1.mono (e'.carryH R1.s hh), q2.mono (e'.carryH R1.s hh)⟩) h1⟩⟩
  · cases hz
theorem ji_enum (hg : Gl X "enumerate") (hm : X.mg "enumerate" = none) (ha : JA X W [e] ta) (hs : starEach [e] X.env = [(false, eval e X.env)] := by rfl) :
    JI X W (.Tuple elts kk tpos) (.Call (.Name "enumerate" p) [e] [] pos) (aEnum ta) := PI.imp (pi_enum hg hm ha hs) fun σ H R ⟨αs, S, QA, XA, Re, h, q, xo⟩ => by
  refine ⟨αs, S, _, XA, Re, h, fun αs1 vs H1 ds S1 R1 e1 rv ⟨x, s, hd, hz, h1⟩ => ?_, xo⟩
  subst hd
  obtain ⟨v, ev, r1⟩ := rp1 rv
  subst ev
  unfold srcEnum at hz
  split at hz
  · cases hz
    rename_i xs
    cases r1 with
    | @lst a vs _ t1 n1 q1 =>
      exact ⟨a, vs, rfl, .inl (.inl t1), q αs1 _ H1 S1 _ R1 e1 (ite_ok rfl fun αs' hs σ' H' S' hh R' e' _ => ⟨vs, .inl (.inl (e'.keep _ _ t1 n1)), q1.mono (e'.carryH R1.s hh)⟩) h1⟩
  · rename_i n
    split at hz
    · rename_i xs hx
      cases hz
      cases r1 with
      | @ref a _ e3 =>
        obtain ⟨vs, g1, g2⟩ := R1.s.obj _ _ _ hx e3
        refine ⟨a, vs, rfl, .inl (.inl g1), q αs1 _ H1 S1 _ R1 e1 (ite_ok rfl fun αs' hs σ' H' S' hh R' e' hst => ?_) h1⟩
        obtain ⟨ws, k1, k2⟩ := R'.s.obj _ _ _ hst (e'.pre _ _ e3)
        exact ⟨ws, .inl (.inl k1), k2⟩
    · cases hz
  · cases hz
end
end Ab
set_option Elab.async false
set_option linter.all false
set_option maxRecDepth 100000
set_option autoImplicit false
/-! list(range(..)), three names at once. -/
namespace Ab
open PySem PySem.Spec PyProof.Rows L2
theorem rpRg {K : PySem.W.Frag} {αs : Al} {L : Addr → Prop} {H : Hp} (a b : Int) : RpAll K αs L H (rgV a b) (rgD a (b - a).toNat) := by
  unfold rgV rgD
  generalize List.range (b - a).toNat = l
  induction l with
  | nil => exact .nil
  | cons i l ih => exact .cons (.int _) ih
def aLRg1 (bl : Bool) (ta : AE) : AE := fun S Q X => ta S (fun d S1 => ∃ n, d = .int n ∧ RgOk 0 n ∧ newL bl (rgD 0 n.toNat) S1.st fun d st => Q d ⟨S1.σ, st⟩) X
def aLRg2 (bl : Bool) (ta tb : AE) : AE := fun S Q X => ta S (fun d S1 => tb S1 (fun e S2 => ∃ i j, d = .int i ∧ e = .int j ∧ RgOk i j ∧ newL bl (rgD i (j - i).toNat) S2.st fun d st => Q d ⟨S2.σ, st⟩) X) X
section
variable {X : Cx} {W : WX} {a b c : Expr} {ta tb : AE} {tl : AA} {p pos p2 pos2 : Pos}
theorem j_lrg1 (bl : Bool) (hc : X.calm = true) (hg : Gl X "list") (hm : X.mg "list" = none) (hg2 : Gl X "range") (hm2 : X.mg "range" = none) (ha : JE X W a ta) (na : starEach [a] X.env = (false, eval a X.env) :: starEach [] X.env := by rfl)
    (nb : starEach [.Call (.Name "range" p2) [a] [] pos2] X.env = (false, eval (.Call (.Name "range" p2) [a] [] pos2) X.env) :: starEach [] X.env := by rfl) :
    JE X W (.Call (.Name "list" p) [.Call (.Name "range" p2) [a] [] pos2] [] pos) (aLRg1 bl ta) :=
  PE.imp (pe_listRg hc hg hm (prg_1 hg2 hm2 ha na) nb) fun σ H Q ⟨αs, S, QA, XA, R, h, q, xo⟩ => by
    refine ⟨αs, S, _, XA, R, h, fun αs1 v H1 d S1 R1 e1 rv ⟨n, hd, ok, h1⟩ => ?_, xo⟩
    subst hd
    cases rv
    refine ⟨n, rfl, ok, fun l hl => newL_ok (ds := rgD 0 (n - 0).toNat) R1.s hl (rpRg 0 n) (by rw [Int.sub_zero]; exact h1) (ZOk.of q R R1 e1)⟩
theorem j_lrg2 (bl : Bool) (hc : X.calm = true) (hg : Gl X "list") (hm : X.mg "list" = none) (hg2 : Gl X "range") (hm2 : X.mg "range" = none) (ha : JE X W a ta) (hb : JE X W b tb) (na : starEach [a, b] X.env = (false, eval a X.env) :: starEach [b] X.env := by rfl)
    (na2 : starEach [b] X.env = (false, eval b X.env) :: starEach [] X.env := by rfl) (hpp : (backTo pos2 (starEach [b] X.env)).any (·.1) = false := by rfl)
    (nb : starEach [.Call (.Name "range" p2) [a, b] [] pos2] X.env = (false, eval (.Call (.Name "range" p2) [a, b] [] pos2) X.env) :: starEach [] X.env := by rfl) :
    JE X W (.Call (.Name "list" p) [.Call (.Name "range" p2) [a, b] [] pos2] [] pos) (aLRg2 bl ta tb) :=
  PE.imp (pe_listRg hc hg hm (prg_2 hg2 hm2 ha hb na na2 hpp) nb) fun σ H Q ⟨αs, S, QA, XA, R, h, q, xo⟩ => by
    refine ⟨αs, S, _, XA, R, h, fun αs1 v H1 d S1 R1 e1 rv h1 => ?_, xo⟩
    refine ⟨αs1, S1, _, XA, R1, h1, fun αs2 w H2 e S2 R2 e2 rw ⟨i, j, hd, he, ok, h2⟩ => ?_, xo.on R R1 e1⟩
    subst hd he
    cases rv
    cases rw
    exact ⟨i, j, rfl, rfl, ok, fun l hl => newL_ok R2.s hl (rpRg i j) h2 (ZOk.of q R R2 (e1.trans R.s e2 R1.s))⟩
theorem js_par3 {i j l : Nat} {x y z : Str} {px py pz pt pt2 : Pos} {kt k2 : Nat} (hc : X.calm = true) (hN : X.N.Nodup) (hi : X.N[i]? = some x) (hj : X.N[j]? = some y) (hl : X.N[l]? = some z) (hij : i ≠ j) (hil : i ≠ l) (hjl : j ≠ l)
    (hx : X.env.scope.names.lookup x = some .local) (hy : X.env.scope.names.lookup y = some .local) (hz : X.env.scope.names.lookup z = some .local) (ha : JA X W [a, b, c] tl)
    (hw : swappedStores [.Tuple [.Name x px, .Name y py, .Name z pz] kt pt] (.Tuple [a, b, c] k2 pt2) X.env = pure (some [x, y, z]) := by rfl)
    (hs : swapsWithSole [.Tuple [.Name x px, .Name y py, .Name z pz] kt pt] (.Tuple [a, b, c] k2 pt2) pos.line X.env = pure false := by rfl) :
    JS X W (.Assign [.Tuple [.Name x px, .Name y py, .Name z pz] kt pt] (.Tuple [a, b, c] k2 pt2) pos) (aPar3 i j l tl) :=
  PS.imp (ps_par3 hc hN hi hj hl hij hil hjl hx hy hz ha hw hs) fun D σ H ⟨αs, S, DA, R, h, q⟩ => by
    refine ⟨αs, S, _, _, R, h, fun αs1 vs H1 ds S1 R1 e1 rv ⟨d1, d2, d3, hd, h1⟩ => ?_, q.x σ⟩
    subst hd
    cases rv with
    | cons r1 rr =>
      cases rr with
      | cons r2 rr =>
        cases rr with
        | cons r3 r0 =>
          cases r0
          exact ⟨_, _, _, rfl, (q.on R R1 e1).nx αs1 _ H1 _ (((R1.set r1).set r2).set r3) R1.ext0 h1⟩
end
end Ab
set_option linter.all false
set_option maxRecDepth 100000
set_option autoImplicit false
namespace Zs
open PySem PySem.Spec PyProof.Rows
section
variable {M : Model} {A : Around} {E : Value → Shared → Prop}
theorem forIn_steps {α β : Type} : ∀ (l : List α) {f : α → β → Sem (ForInStep β)} (b : Nat → β) (P : Nat → Shared → Prop) {Q : β → Shared → Prop},
    (∀ j x, l[j]? = some x → ∀ s, P j s → wpAny M A (f x (b j)) (fun r s' => r = .yield (b (j + 1)) ∧ P (j + 1) s') E s) → ∀ s, P 0 s → (∀ s', P l.length s' → Q (b l.length) s') → wpAny M A (forIn l (b 0) f) Q E s
  | [], f, b, P, Q, _, s, h0, h => by
    rw [List.forIn_nil]
    exact wpAny_pure (h s h0)
  | x :: r, f, b, P, Q, step, s, h0, h => by
    rw [List.forIn_cons]
    refine wpAny_bind (wpAny_mono (step 0 x rfl s h0) (fun q s' hq => ?_) fun _ _ z => z)
    obtain ⟨e, h1⟩ := hq
    subst e
    exact forIn_steps r (fun j => b (j + 1)) (fun j => P (j + 1)) (fun j y hy => step (j + 1) y (by simpa using hy)) s' h1 (fun s'' h2 => h s'' h2)
end
abbrev IsZ (h : Heap) (z TI TO : Addr) (f0 f1 : Value) : Prop := h.get? z = some { cls := .type "zip", dict := none, data := .fields #[f0, f1, .bool false, .ref TI, .ref TO], slots := #[] }
abbrev IsTup (h : Heap) (T : Addr) (xs : Array Value) : Prop := h.get? T = some { cls := .type "tuple", data := .seq xs }
structure Apart (z TI TO : Addr) (is ls : List Addr) : Prop where
  TIz : TI ≠ z
  TOz : TO ≠ z
  TITO : TI ≠ TO
  nd : is.Nodup
  iz : z ∉ is
  iTI : TI ∉ is
  iTO : TO ∉ is
  lz : z ∉ ls
  lTO : TO ∉ ls
  li : ∀ l ∈ ls, l ∉ is
section
variable {prog : Program} {w : World} {A : Around} {E : Value → Shared → Prop} {s : Shared} {z TI TO : Addr} {is ls : List Addr} {k : Nat} {xs : List Value}
/-- p iterators have gone on -/
structure Mid (h0 h : Heap) (z TI TO : Addr) (is ls : List Addr) (k : Nat) (f0 f1 : Value) (g p : Nat) : Prop where
  zz : IsZ h z TI TO f0 f1
  ti : IsTup h TI (is.map Value.ref).toArray
  on : ∀ (j : Nat) (i l : Addr), is[j]? = some i → ls[j]? = some l → j < p → h.IsTupleIter i l (k + 1)
  yet : ∀ (j : Nat) (i l : Addr), is[j]? = some i → ls[j]? = some l → p ≤ j → h.IsTupleIter i l k
  keep : ∀ c o, c ≠ z → c ≠ TO → c ∉ is → h0.get? c = some o → h.get? c = some o
  size : h.objs.size = h0.objs.size + g
def F0 (f0 : Value) : Prop := f0 = .none ∨ ∃ T : Nat, f0 = rawInt T
def F1 (f1 : Value) : Prop := ∃ b, f1 = .bool b
theorem wpAny_alive {a : Addr} {Q : Option Obj → Shared → Prop} (h : Q (s.heap.get? a) s) : wpAny (model prog w) A (loadIfAlive a) Q E s := by
  intro Γ p hΓ
  unfold loadIfAlive
  rw [Sem.wp_loadIfAlive]
  exact h
theorem isFree_z {f0 f1 : Value} {Q : Bool → Shared → Prop} (hz : IsZ s.heap z TI TO f0 f1) (h0 : F0 f0) (h1 : F1 f1)
    (hq : ∀ b h' f1', IsZ h' z TI TO f0 f1' → F1 f1' → Heap.SameBut z s.heap h' → Q b { s with heap := h' }) : wpAny (model prog w) A (Builtin.SmallTypes.ownedTupleIsFree (.ref z)) Q E s := by
  unfold Builtin.SmallTypes.ownedTupleIsFree
  rcases h0 with e | ⟨T, e⟩
  · subst e
    exact wpAny_bind (wpAny_field hz rfl (x := .none) rfl (wpAny_pure (hq true s.heap f1 hz h1 (Heap.SameBut.refl _ _))))
  · subst e
    refine wpAny_bind (wpAny_field hz rfl (x := rawInt T) rfl ?_)
    show wpAny _ _ (loadIfAlive ((T : Int).toNat) >>= _) _ _ _
    rw [Int.toNat_natCast]
    refine wpAny_bind (wpAny_alive ?_)
    cases hT : s.heap.get? T with
    | none =>
      simp only [Option.isNone_none, if_true]
      exact wpAny_pure (hq true s.heap f1 hz h1 (Heap.SameBut.refl _ _))
    | some oT =>
      simp only [Option.isNone_some, Bool.false_eq_true, if_false]
      obtain ⟨f, e⟩ := h1
      subst e
      refine wpAny_bind (wpAny_field hz rfl (x := .bool f) rfl ?_)
      cases f with
      | true =>
        rw [if_neg (show ¬ ((Value.bool true != Value.bool true) = true) from Bool.false_ne_true)]
        exact wpAny_pure (hq false s.heap _ hz ⟨_, rfl⟩ (Heap.SameBut.refl _ _))
      | false =>
        rw [if_pos (show (Value.bool false != Value.bool true) = true from rfl)]
        exact wpAny_bind (wpAny_setField_rec hz (by simp) fun h₁ hz₁ hs₁ => wpAny_pure (hq false h₁ _ hz₁ ⟨_, rfl⟩ hs₁))
theorem Mid.step {h0 h h2 : Heap} {f0 f1 : Value} {g p : Nat} {i l : Addr} (m : Mid h0 h z TI TO is ls k f0 f1 g p) (D : Apart z TI TO is ls) (hip : is[p]? = some i) (hlp : ls[p]? = some l) (hit : h2.IsTupleIter i l (k + 1)) (hsb : Heap.SameBut i h h2) : Mid h0 h2 z TI TO is ls k f0 f1 g (p + 1) := by
  have him : i ∈ is := List.mem_of_getElem? hip
  have iz : z ≠ i := fun q => D.iz (by rw [q]; exact him)
  have iTI : TI ≠ i := fun q => D.iTI (by rw [q]; exact him)
  have uniq : ∀ (j : Nat) (i' : Addr), is[j]? = some i' → j ≠ p → i' ≠ i := fun j i' h1 hj q => hj (by
    have z1 := List.getElem?_eq_some_iff.mp h1
    have z2 := List.getElem?_eq_some_iff.mp hip
    exact (List.getElem_inj D.nd).mp (z1.2.trans (q.trans z2.2.symm)))
  refine ⟨hsb.extBut _ _ iz m.zz, hsb.extBut _ _ iTI m.ti, fun j i' l' h1 h2' h3 => ?_, fun j i' l' h1 h2' h3 => ?_, fun c o' c1 c2 c3 e => hsb.extBut _ _ (fun q => c3 (by rw [q]; exact him)) (m.keep c o' c1 c2 c3 e), by rw [hsb.1, m.size]⟩
  · by_cases hjp : j = p
    · subst hjp
      rw [hip] at h1
      rw [hlp] at h2'
      cases h1; cases h2'
      exact hit
    · exact (m.on j i' l' h1 h2' (by omega)).at fun o e => hsb.extBut _ _ (uniq j i' h1 hjp) e
  · exact (m.yet j i' l' h1 h2' (by omega)).at fun o e => hsb.extBut _ _ (uniq j i' h1 (by omega)) e
theorem zip_next1 {outs : Array Value} {f0 f1 : Value} {Q : Value → Shared → Prop} (D : Apart z TI TO is ls) (hn : is ≠ []) (hbig : is.length ≤ sizeLine) (hl : is.length = ls.length) (hxl : xs.length = is.length) (hz' : IsZ s.heap z TI TO f0 f1) (hf0 : F0 f0) (hf1 : F1 f1) (hTI' : IsTup s.heap TI (is.map Value.ref).toArray) (hTO' : IsTup s.heap TO outs) (ho : outs.size = is.length)
    (hi' : ∀ (j : Nat) (i l : Addr), is[j]? = some i → ls[j]? = some l → s.heap.IsTupleIter i l k) (hx' : ∀ (j : Nat) (l : Addr), ls[j]? = some l → ∃ items, s.heap.IsTuple l items ∧ items[k]? = xs[j]?) 
    (hQ : ∀ h' f0 f1, F0 f0 → F1 f1 → Mid s.heap h' z TI TO is ls k f0 f1 1 is.length → (∃ outs', outs'.size = is.length ∧ IsTup h' TO outs') → IsTup h' s.heap.objs.size xs.toArray → Q (.ref s.heap.objs.size) { s with heap := h' }) :
    wpAny (model prog w) A (Builtin.«zip.__next__» ⟨[.ref z], []⟩) (fun fin s' => ∃ v, fin = .done (.ret v) ∧ Q v s') E s := by
  show wpAny _ _ (field (.ref z) 2 >>= _) _ _ _
  refine wpAny_bind (wpAny_field hz' rfl (x := .bool false) rfl ?_)
  show wpAny _ _ (field (.ref z) 3 >>= _) _ _ _
  refine wpAny_bind (wpAny_field hz' rfl (x := .ref TI) rfl ?_)
  refine wpAny_bind (wpAny_seqItems hTI' rfl ?_)
  dsimp only
  have hne : (List.map Value.ref is).toArray.isEmpty = false := by cases is <;> simp at hn ⊢
  rw [hne]
  simp only [Bool.false_eq_true, if_false]
  refine wpAny_bind (isFree_z hz' hf0 hf1 fun b h₀ f1' hz hf1' sb => ?_)
  have hTI : IsTup h₀ TI (is.map Value.ref).toArray := sb.extBut _ _ D.TIz hTI'
  have hTO : IsTup h₀ TO outs := sb.extBut _ _ D.TOz hTO'
  have hi : ∀ (j : Nat) (i l : Addr), is[j]? = some i → ls[j]? = some l → h₀.IsTupleIter i l k := fun j i l h1 h2 => (hi' j i l h1 h2).at fun o e => sb.extBut _ _ (fun q => D.iz (by rw [← q]; exact List.mem_of_getElem? h1)) e
  have hx : ∀ (j : Nat) (l : Addr), ls[j]? = some l → ∃ items, h₀.IsTuple l items ∧ items[k]? = xs[j]? := fun j l hj => by
    obtain ⟨items, ⟨ol, hol, r⟩, h2⟩ := hx' j l hj
    exact ⟨items, ⟨ol, sb.extBut _ _ (fun q => D.lz (by rw [← q]; exact List.mem_of_getElem? hj)) hol, r⟩, h2⟩
  have up0 : ∀ c o, c ≠ z → s.heap.get? c = some o → h₀.get? c = some o := fun c o c1 e => sb.extBut _ _ c1 e
  have sz0 : h₀.objs.size = s.heap.objs.size := sb.1
  cases b with
  | false =>
    simp only [Bool.false_eq_true, if_false]
    refine wpAny_bind ?_
    rw [← Array.forIn_toList]
    have M1 : Mid h₀ h₀ z TI TO is ls k f0 f1' 0 0 := ⟨hz, hTI, fun j i l _ _ h => absurd h (Nat.not_lt_zero _), fun j i l h1 h2 _ => hi j i l h1 h2, fun c o _ _ _ e => e, rfl⟩
    refine forIn_steps (b := fun p => (none, (xs.take p).toArray)) _ (fun p s' => ∃ h, s' = { s with heap := h } ∧ Mid h₀ h z TI TO is ls k f0 f1' 0 p ∧ IsTup h TO outs) (fun p x hp s' hs' => ?_) _ ⟨h₀, rfl, M1, hTO⟩ fun s' hs' => ?_
    · obtain ⟨h, e, m, o2⟩ := hs'
      subst e
      obtain ⟨i, hip, e⟩ : ∃ i, is[p]? = some i ∧ x = Value.ref i := by
        rw [List.toList_toArray, List.getElem?_map] at hp
        cases e : is[p]? with
        | none => rw [e] at hp; simp at hp
        | some i => rw [e] at hp; simp at hp; exact ⟨i, rfl, hp.symm⟩
      subst e
      have hpl : p < is.length := (List.getElem?_eq_some_iff.mp hip).1
      have him : i ∈ is := List.mem_of_getElem? hip
      obtain ⟨l, hlp⟩ : ∃ l, ls[p]? = some l := ⟨_, List.getElem?_eq_getElem (by omega)⟩
      have hlm : l ∈ ls := List.mem_of_getElem? hlp
      obtain ⟨items, ht, hxk⟩ := hx p l hlp
      obtain ⟨x, hxp⟩ : ∃ x, xs[p]? = some x := ⟨_, List.getElem?_eq_getElem (by omega)⟩
      rw [hxp] at hxk
      have ht' : h.IsTuple l items := by
        obtain ⟨ol, hol, r⟩ := ht
        exact ⟨ol, m.keep l ol (fun q => D.lz (by rw [← q]; exact hlm)) (fun q => D.lTO (by rw [← q]; exact hlm)) (D.li l hlm) hol, r⟩
      refine wpAny_bind (wpAny_holding ?_)
      show wpAny _ _ (Builtin.SmallTypes.nextOf (.ref i) >>= _) _ _ _
      refine wpAny_bind (wpAny_nextOf_tuple_item (m.yet p i l hip hlp (Nat.le_refl _)) ht' hxk fun h2 hit hsb => wpAny_pure ?_)
      dsimp only
      refine wpAny_pure ⟨?_, _, rfl, m.step D hip hlp hit hsb, hsb.extBut _ _ (fun q => D.iTO (by rw [q]; exact him)) o2⟩
      rw [List.take_add_one, hxp]
      simp
    · obtain ⟨h, e, m, o2⟩ := hs'
      subst e
      have ln : (List.map Value.ref is).toArray.toList.length = is.length := by simp
      rw [ln] at m
      have tk : List.take is.length xs = xs := by rw [← hxl]; exact List.take_length
      simp only [ln, tk]
      refine wpAny_bind (wpAny_newTuple ?_ (by omega))
      refine wpAny_pure ⟨_, rfl, ?_⟩
      have hlt : ∀ {c : Addr} {o : Obj}, h.get? c = some o → (h.push { cls := .type "tuple", data := .seq xs.toArray }).get? c = some o := fun e => Heap.get?_push_of_some _ e
      show Q (.ref h.objs.size) _
      rw [m.size, Nat.add_zero, sz0]
      refine hQ _ _ _ hf0 hf1' ⟨hlt m.zz, hlt m.ti, fun j i l h1 h2 h3 => (m.on j i l h1 h2 h3).at fun o e => hlt e, fun j i l h1 h2 h3 => absurd (List.getElem?_eq_some_iff.mp h1).1 (by omega),
        fun c o c1 c2 c3 e => hlt (m.keep c o c1 c2 c3 (up0 c o c1 e)), by rw [Heap.size_push, m.size, sz0]⟩ ⟨outs, ho, hlt o2⟩ ?_
      have q := Heap.get?_push_size h (o := { cls := .type "tuple", data := .seq xs.toArray }) rfl
      rw [m.size, Nat.add_zero, sz0] at q
      exact q
  | true =>
  simp only [if_true]
  refine wpAny_bind (wpAny_rule ?_)
  refine wpAny_bind (wpAny_field hz rfl (x := .ref TO) rfl ?_)
  dsimp only
  refine wpAny_bind (wpAny_setField_rec hz (by simp) fun h₁ hz₁ hs₁ => ?_)
  replace hz₁ : IsZ h₁ z TI TO .ellipsis f1' := hz₁
  have M1 : Mid h₀ h₁ z TI TO is ls k .ellipsis f1' 0 0 := ⟨hz₁, hs₁.extBut _ _ D.TIz hTI, fun j i l _ _ h => absurd h (Nat.not_lt_zero _), fun j i l h1 h2 _ => (hi j i l h1 h2).at fun o e => hs₁.extBut _ _ (fun q => D.iz (by rw [← q]; exact List.mem_of_getElem? h1)) e,
    fun c o c1 _ _ e => hs₁.extBut _ _ c1 e, hs₁.1⟩
  have O1 : IsTup h₁ TO outs := hs₁.extBut _ _ D.TOz hTO
  refine wpAny_bind (forIn_steps (b := fun _ => (none, ())) _ (fun p s' => ∃ h, s' = { s with heap := h } ∧ Mid h₀ h z TI TO is ls k .ellipsis f1' 0 p ∧ ∃ outs, outs.size = is.length ∧ IsTup h TO outs ∧ ∀ j, j < p → outs[j]? = xs[j]?) (fun p x hp s' hs' => ?_) _ ⟨h₁, rfl, M1, outs, ho, O1, fun j hj => absurd hj (Nat.not_lt_zero _)⟩ fun s' hs' => ?_)
  · obtain ⟨h, e, m, o, o1, o2, o3⟩ := hs'
    subst e
    obtain ⟨i, hip, e⟩ : ∃ i, is[p]? = some i ∧ x = (Value.ref i, p) := by
      rw [List.getElem?_zipIdx, List.getElem?_map] at hp
      cases e : is[p]? with
      | none => rw [e] at hp; simp at hp
      | some i => rw [e] at hp; simp at hp; exact ⟨i, rfl, hp.symm⟩
    subst e
    have hpl : p < is.length := (List.getElem?_eq_some_iff.mp hip).1
    have him : i ∈ is := List.mem_of_getElem? hip
    obtain ⟨l, hlp⟩ : ∃ l, ls[p]? = some l := ⟨_, List.getElem?_eq_getElem (by omega)⟩
    have hlm : l ∈ ls := List.mem_of_getElem? hlp
    obtain ⟨items, ht, hxk⟩ := hx p l hlp
    obtain ⟨x, hxp⟩ : ∃ x, xs[p]? = some x := ⟨_, List.getElem?_eq_getElem (by omega)⟩
    rw [hxp] at hxk
    have ht' : h.IsTuple l items := by
      obtain ⟨ol, hol, r⟩ := ht
      exact ⟨ol, m.keep l ol (fun q => D.lz (by rw [← q]; exact hlm)) (fun q => D.lTO (by rw [← q]; exact hlm)) (D.li l hlm) hol, r⟩
    have iz : i ≠ z := fun q => D.iz (by rw [← q]; exact him)
    have iTO : i ≠ TO := fun q => D.iTO (by rw [← q]; exact him)
    have iTI : i ≠ TI := fun q => D.iTI (by rw [← q]; exact him)
    refine wpAny_bind (wpAny_onRaise ?_)
    show wpAny _ _ (Builtin.SmallTypes.nextOf (.ref i) >>= _) _ _ _
    refine wpAny_bind (wpAny_nextOf_tuple_item (m.yet p i l hip hlp (Nat.le_refl _)) ht' hxk fun h2 hit hsb => wpAny_pure ?_)
    dsimp only
    have o2' : IsTup h2 TO o := hsb.extBut _ _ (Ne.symm iTO) o2
    refine wpAny_bind (wpAny_seqItems o2' rfl ?_)
    dsimp only
    refine wpAny_bind (wpAny_updateSeq o2' rfl ?_ (by omega) (by simp; omega))
    refine wpAny_bind (wpAny_letGo (wpAny_pure ⟨rfl, _, rfl, ?_, o.setIfInBounds p x, by simpa using o1, ?_, fun j hj => ?_⟩))
    · have hs3 := Heap.SameBut.update h2 TO (Obj.mapSeq fun q => q.setIfInBounds p x)
      refine ⟨?_, ?_, fun j i' l' h1 h2' h3 => ?_, fun j i' l' h1 h2' h3 => ?_, fun c o' c1 c2 c3 e => ?_, ?_⟩
      · exact hs3.extBut _ _ (Ne.symm D.TOz) (hsb.extBut _ _ (Ne.symm iz) m.zz)
      · exact hs3.extBut _ _ D.TITO (hsb.extBut _ _ (Ne.symm iTI) m.ti)
      · have jm : i' ≠ TO := fun q => D.iTO (by rw [← q]; exact List.mem_of_getElem? h1)
        by_cases hjp : j = p
        · subst hjp
          rw [hip] at h1
          rw [hlp] at h2'
          cases h1; cases h2'
          exact hit.at fun o e => hs3.extBut _ _ jm e
        · have ne : i' ≠ i := fun q => hjp (by
            have z1 := List.getElem?_eq_some_iff.mp h1
            have z2 := List.getElem?_eq_some_iff.mp hip
            exact (List.getElem_inj D.nd).mp (z1.2.trans (q.trans z2.2.symm)))
          exact (m.on j i' l' h1 h2' (by omega)).at fun o e => hs3.extBut _ _ jm (hsb.extBut _ _ ne e)
      · have jm : i' ≠ TO := fun q => D.iTO (by rw [← q]; exact List.mem_of_getElem? h1)
        have ne : i' ≠ i := fun q => by
          have z1 := List.getElem?_eq_some_iff.mp h1
          have z2 := List.getElem?_eq_some_iff.mp hip
          have := (List.getElem_inj D.nd).mp (z1.2.trans (q.trans z2.2.symm))
          omega
        exact (m.yet j i' l' h1 h2' (by omega)).at fun o e => hs3.extBut _ _ jm (hsb.extBut _ _ ne e)
      · exact hs3.extBut _ _ c2 (hsb.extBut _ _ (fun q => c3 (by rw [q]; exact him)) (m.keep c o' c1 c2 c3 e))
      · rw [hs3.1, hsb.1, m.size]
    · show Heap.get? _ TO = _
      rw [Heap.get?_update_self _ o2' rfl]
      simp [Obj.mapSeq]
    · by_cases hjp : j = p
      · subst hjp
        rw [Array.getElem?_setIfInBounds_self_of_lt (by omega), hxp]
      · rw [Array.getElem?_setIfInBounds_ne (by omega)]
        exact o3 j (by omega)
  · obtain ⟨h, e, m, o, o1, o2, o3⟩ := hs'
    subst e
    have ln : (List.map Value.ref is).zipIdx.length = is.length := by simp
    rw [ln] at m o3
    have oe : o.toList = xs := by
      apply List.ext_getElem?
      intro j
      rw [Array.getElem?_toList]
      by_cases hj : j < is.length
      · exact o3 j hj
      · rw [Array.getElem?_eq_none (by omega), List.getElem?_eq_none (by omega)]
    dsimp only
    refine wpAny_bind (wpAny_seqItems o2 rfl ?_)
    dsimp only
    rw [oe]
    refine wpAny_bind (wpAny_newTuple ?_ (by omega))
    have hzlt : z < h.objs.size := Heap.lt_size m.zz
    have hTOlt : TO < h.objs.size := Heap.lt_size o2
    have hTIlt : TI < h.objs.size := Heap.lt_size m.ti
    refine wpAny_bind ?_
    unfold Builtin.SmallTypes.ownedTupleHandOut
    have hz₆ : IsZ (h.push { cls := .type "tuple", data := .seq xs.toArray }) z TI TO .ellipsis f1' := Heap.get?_push_of_some _ m.zz
    refine wpAny_bind (wpAny_setField_rec hz₆ (by simp) fun h₇ hz₇ hs₇ => ?_)
    replace hz₇ : IsZ h₇ z TI TO (rawInt h.objs.size) f1' := hz₇
    refine wpAny_setField_rec hz₇ (by simp) fun h₈ hz₈ hs₈ => ?_
    replace hz₈ : IsZ h₈ z TI TO (rawInt h.objs.size) (.bool false) := hz₈
    have up : ∀ c o, c ≠ z → h.get? c = some o → h₈.get? c = some o := fun c o c1 e => hs₈.extBut _ _ c1 (hs₇.extBut _ _ c1 (Heap.get?_push_of_some _ e))
    have hT₈ : IsTup h₈ h.objs.size xs.toArray := hs₈.extBut _ _ (Nat.ne_of_gt hzlt) (hs₇.extBut _ _ (Nat.ne_of_gt hzlt) (Heap.get?_push_size _ rfl))
    rw [m.size, Nat.add_zero, sz0] at hT₈
    refine wpAny_pure ⟨_, rfl, ?_⟩
    show Q (.ref h.objs.size) _
    rw [m.size, Nat.add_zero, sz0]
    have hisz : ∀ i ∈ is, i ≠ z := fun i hi q => D.iz (by rw [← q]; exact hi)
    refine hQ h₈ _ _ (.inr ⟨_, rfl⟩) ⟨_, rfl⟩ ⟨hz₈, up _ _ D.TIz m.ti, fun j i l h1 h2 h3 => (m.on j i l h1 h2 h3).at fun o e => up _ o (hisz i (List.mem_of_getElem? h1)) e, fun j i l h1 h2 h3 => absurd (List.getElem?_eq_some_iff.mp h1).1 (by omega),
      fun c o c1 c2 c3 e => up c o c1 (m.keep c o c1 c2 c3 (up0 c o c1 e)), ?_⟩ ⟨o, o1, up _ _ D.TOz o2⟩ hT₈
    rw [hs₈.1, hs₇.1, Heap.size_push, m.size, sz0]
theorem zip_end1 {outs : Array Value} {f0 f1 : Value} {Q : Fin → Shared → Prop} {i l : Addr} {ir lr : List Addr} {items : Array Value} (hh : A.handled = none) (D : Apart z TI TO (i :: ir) (l :: lr)) (hz' : IsZ s.heap z TI TO f0 f1) (hf0 : F0 f0) (hf1 : F1 f1)
    (hTI' : IsTup s.heap TI ((i :: ir).map Value.ref).toArray) (hTO' : IsTup s.heap TO outs) (hi' : s.heap.IsTupleIter i l k) (hx' : s.heap.IsTuple l items) (hk : items[k]? = none)
    (hE : ∀ h' e, (∀ c o, c ≠ z → c ≠ TO → c ∉ (i :: ir) → s.heap.get? c = some o → h'.get? c = some o) → (∃ o, h'.get? e = some o ∧ o.cls = .type "StopIteration") → E (.ref e) { s with heap := h' }) :
    wpAny (model prog w) A (Builtin.«zip.__next__» ⟨[.ref z], []⟩) Q E s := by
  have iz : i ≠ z := fun q => D.iz (by rw [← q]; simp)
  have lz : l ≠ z := fun q => D.lz (by rw [← q]; simp)
  show wpAny _ _ (field (.ref z) 2 >>= _) _ _ _
  refine wpAny_bind (wpAny_field hz' rfl (x := .bool false) rfl ?_)
  show wpAny _ _ (field (.ref z) 3 >>= _) _ _ _
  refine wpAny_bind (wpAny_field hz' rfl (x := .ref TI) rfl ?_)
  refine wpAny_bind (wpAny_seqItems hTI' rfl ?_)
  dsimp only
  have hne : (List.map Value.ref (i :: ir)).toArray.isEmpty = false := by simp
  rw [hne]
  simp only [Bool.false_eq_true, if_false]
  refine wpAny_bind (isFree_z hz' hf0 hf1 fun b h₀ f1' hz hf1' sb => ?_)
  have hTO : IsTup h₀ TO outs := sb.extBut _ _ D.TOz hTO'
  have hi : h₀.IsTupleIter i l k := hi'.at fun o e => sb.extBut _ _ iz e
  have hx : h₀.IsTuple l items := by
    obtain ⟨ol, hol, r⟩ := hx'
    exact ⟨ol, sb.extBut _ _ lz hol, r⟩
  cases b with
  | false =>
    simp only [Bool.false_eq_true, if_false]
    refine wpAny_bind ?_
    rw [← Array.forIn_toList, List.toList_toArray, List.map_cons, List.forIn_cons]
    refine wpAny_bind (wpAny_bind (wpAny_holding ?_))
    show wpAny _ _ (Builtin.SmallTypes.nextOf (.ref i) >>= _) _ _ _
    refine wpAny_bind (wpAny_nextOf_tuple_end hh hi hx hk fun h2 e hs2 he => ?_)
    exact hE h2 e (fun c o c1 _ c3 x => hs2 _ _ (fun q => c3 (by rw [q]; simp)) (sb.extBut _ _ c1 x)) he
  | true =>
    simp only [if_true]
    refine wpAny_bind (wpAny_rule ?_)
    refine wpAny_bind (wpAny_field hz rfl (x := .ref TO) rfl ?_)
    dsimp only
    refine wpAny_bind (wpAny_setField_rec hz (by simp) fun h₁ hz₁ hs₁ => ?_)
    replace hz₁ : IsZ h₁ z TI TO .ellipsis f1' := hz₁
    refine wpAny_bind ?_
    rw [List.map_cons, List.zipIdx_cons, List.forIn_cons]
    refine wpAny_bind (wpAny_bind (wpAny_onRaise ?_))
    show wpAny _ _ (Builtin.SmallTypes.nextOf (.ref i) >>= _) _ _ _
    have hx1 : h₁.IsTuple l items := by
      obtain ⟨ol, hol, r⟩ := hx
      exact ⟨ol, hs₁.extBut _ _ lz hol, r⟩
    refine wpAny_bind (wpAny_nextOf_tuple_end hh (hi.at fun o e => hs₁.extBut _ _ iz e) hx1 hk fun h₂ e hs₂ he => ?_)
    obtain ⟨oe, hoe, hce⟩ := he
    have hz₂ : IsZ h₂ z TI TO .ellipsis f1' := hs₂ _ _ (Ne.symm iz) hz₁
    have hez : e ≠ z := fun x => by subst x; rw [hz₂] at hoe; cases hoe; simp at hce
    refine wpAny_setField_rec hz₂ (by simp) fun h₃ _ hs₃ => hE h₃ e (fun c o c1 _ c3 x => hs₃.extBut _ _ c1 (hs₂ _ _ (fun q => c3 (by rw [q]; simp)) (hs₁.extBut _ _ c1 (sb.extBut _ _ c1 x)))) ⟨oe, hs₃.extBut _ _ hez hoe, hce⟩
/-- next(z): an item -/
theorem pyNext_item {outs : Array Value} {f0 f1 : Value} {Q : Option Value → Shared → Prop} (D : Apart z TI TO is ls) (hn : is ≠ []) (hbig : is.length ≤ sizeLine) (hl : is.length = ls.length) (hxl : xs.length = is.length) (hz : IsZ s.heap z TI TO f0 f1) (hf0 : F0 f0) (hf1 : F1 f1)
    (hTI : IsTup s.heap TI (is.map Value.ref).toArray) (hTO : IsTup s.heap TO outs) (ho : outs.size = is.length) (hi : ∀ (j : Nat) (i l : Addr), is[j]? = some i → ls[j]? = some l → s.heap.IsTupleIter i l k)
    (hx : ∀ (j : Nat) (l : Addr), ls[j]? = some l → ∃ items, s.heap.IsTuple l items ∧ items[k]? = xs[j]?)
    (hQ : ∀ h' f0 f1, F0 f0 → F1 f1 → Mid s.heap h' z TI TO is ls k f0 f1 1 is.length → (∃ outs', outs'.size = is.length ∧ IsTup h' TO outs') → IsTup h' s.heap.objs.size xs.toArray → Q (some (.ref s.heap.objs.size)) { s with heap := h' }) :
    wpAny (model prog w) A (pyNext (.ref z)) Q E s := by
  have hT : s.TypeIs (.ref z) "zip" := ⟨_, hz, rfl⟩
  unfold pyNext
  exact wpAny_bind (wpAny_attempt (wpAny_callSpecial?_slot (name := Str.ofString "__next__") hT F.slot_zip_next
    (wpAny_call_entry F.slot_zip_next hT F.entry_zip_next (zip_next1 D hn hbig hl hxl hz hf0 hf1 hTI hTO ho hi hx fun h' g0 g1 a1 a2 a3 a4 a5 => wpAny_pure (hQ h' g0 g1 a1 a2 a3 a4 a5)) (F.args_zip_next_1 _))))
theorem pyNext_end {outs : Array Value} {f0 f1 : Value} {Q : Option Value → Shared → Prop} {i l : Addr} {ir lr : List Addr} {items : Array Value} (hh : A.handled = none) (D : Apart z TI TO (i :: ir) (l :: lr)) (hz : IsZ s.heap z TI TO f0 f1) (hf0 : F0 f0) (hf1 : F1 f1)
    (hTI : IsTup s.heap TI ((i :: ir).map Value.ref).toArray) (hTO : IsTup s.heap TO outs) (hi : s.heap.IsTupleIter i l k) (hx : s.heap.IsTuple l items) (hk : items[k]? = none)
    (hQ : ∀ h', (∀ c o, c ≠ z → c ≠ TO → c ∉ (i :: ir) → s.heap.get? c = some o → h'.get? c = some o) → Q none { s with heap := h' }) : wpAny (model prog w) A (pyNext (.ref z)) Q E s := by
  have hT : s.TypeIs (.ref z) "zip" := ⟨_, hz, rfl⟩
  unfold pyNext
  refine wpAny_bind (wpAny_attempt (wpAny_callSpecial?_slot (name := Str.ofString "__next__") hT F.slot_zip_next
    (wpAny_call_entry F.slot_zip_next hT F.entry_zip_next (zip_end1 hh D hz hf0 hf1 hTI hTO hi hx hk fun h' e keep he => ?_) (F.args_zip_next_1 _))))
  obtain ⟨o, ho, hc⟩ := he
  refine wpAny_bind (wpAny_isInstance (T := "StopIteration") (b := true) ⟨o, ho, hc⟩ isSubtype_stop ?_)
  exact wpAny_pure (hQ _ keep)
theorem pyIter_z {f0 f1 : Value} {Q : Value → Shared → Prop} (hz : IsZ s.heap z TI TO f0 f1) (h : Q (.ref z) s) : wpAny (model prog w) A (pyIter (.ref z)) Q E s := by
  have hT : s.TypeIs (.ref z) "zip" := ⟨_, hz, rfl⟩
  refine wpAny_pyIter_slot hT F.slot_zip_iter (wpAny_call_entry F.slot_zip_iter hT F.entry_zip_iter ?_ (F.args_zip_iter_1 _))
  show wpAny _ _ (ret (.ref z)) _ _ s
  exact wpAny_pure ⟨_, rfl, "zip", _, hT, F.slot_zip_next.lookup, h⟩
end
end Zs
set_option linter.all false
set_option maxRecDepth 100000
set_option autoImplicit false
namespace Zs
open PySem PySem.Spec PyProof.Rows
def ixs (n0 n : Nat) : List Addr := (List.range n).map fun j => n0 + j
structure NewZ (h h' : Heap) (ls : List Addr) : Prop where
  zz : IsZ h' (h.objs.size + ls.length + 2) (h.objs.size + ls.length) (h.objs.size + ls.length + 1) .none (.bool false)
  ti : IsTup h' (h.objs.size + ls.length) ((ixs h.objs.size ls.length).map Value.ref).toArray
  to : ∃ outs, outs.size = ls.length ∧ IsTup h' (h.objs.size + ls.length + 1) outs
  it : ∀ (j : Nat) (l : Addr), ls[j]? = some l → h'.IsTupleIter (h.objs.size + j) l 0
  keep : ∀ c o, h.get? c = some o → h'.get? c = some o
theorem meets_new (ls : List Addr) : Meets (Builtin.«zip.__new__» ⟨.type "zip" :: ls.map Value.ref, []⟩) (fun _ R s => ls.length ≤ 1000 ∧ (∀ l ∈ ls, ∃ items, s.heap.IsTuple l items) ∧
      ∀ h', NewZ s.heap h' ls → R (.ok (.ret (.ref (s.heap.objs.size + ls.length + 2)))) { s with heap := h' }) :=
  .of_wp fun prog w A R s h => by
    obtain ⟨hb, hl, hq⟩ := h
    have hsub := sub_zip
    wp_walk
    show wpAny _ _ (forIn (List.map Value.ref ls) #[] (fun x (its : Array Value) => do
      let v ← holding its.toList (pyIter x)
      pure (ForInStep.yield (its.push v)))) _ _ _
    obtain ⟨hp, g, d, tk, os⟩ := s
    have e0 : (#[] : Array Value) = ((ixs hp.objs.size 0).map Value.ref).toArray := rfl
    rw [e0]
    refine forIn_steps (b := fun p => ((ixs hp.objs.size p).map Value.ref).toArray) _ (fun p s' => ∃ h, s' = ⟨h, g, d, tk, os⟩ ∧ h.objs.size = hp.objs.size + p ∧ (∀ (j : Nat) (l : Addr), ls[j]? = some l → j < p → h.IsTupleIter (hp.objs.size + j) l 0) ∧ ∀ c o, hp.get? c = some o → h.get? c = some o) (fun p x hpx s' hs' => ?_) _
      ⟨hp, rfl, rfl, fun j l _ h => absurd h (Nat.not_lt_zero _), fun c o e => e⟩ fun s' hs' => ?_
    · obtain ⟨h, e, hsz, hit, hk⟩ := hs'
      subst e
      obtain ⟨l, hl1, e⟩ : ∃ l, ls[p]? = some l ∧ x = Value.ref l := by
        rw [List.getElem?_map] at hpx
        cases e : ls[p]? with
        | none => rw [e] at hpx; simp at hpx
        | some i => rw [e] at hpx; simp at hpx; exact ⟨i, rfl, hpx.symm⟩
      subst e
      obtain ⟨items, ol, hol, r⟩ := hl l (List.mem_of_getElem? hl1)
      refine wpAny_bind (wpAny_holding ?_)
      refine wpAny_pyIter_tuple (items := items) ⟨ol, hk _ _ hol, r⟩ (wpAny_pure ⟨?_, _, rfl, by rw [Heap.size_push, hsz]; rfl, fun j l' h1 h2 => ?_, fun c o e => Heap.get?_push_of_some _ (hk c o e)⟩)
      · have : ixs hp.objs.size (p + 1) = ixs hp.objs.size p ++ [hp.objs.size + p] := by unfold ixs; rw [List.range_succ, List.map_append]; rfl
        rw [this]
        show ForInStep.yield ((List.map Value.ref (ixs hp.objs.size p)).toArray.push (Value.ref h.objs.size)) = _
        rw [hsz]
        simp
      · by_cases hj : j = p
        · subst hj
          rw [hl1] at h1
          cases h1
          rw [← hsz]
          exact ⟨_, Heap.get?_push_size _ rfl, rfl, rfl⟩
        · exact (hit j l' h1 (by omega)).at fun o e => Heap.get?_push_of_some _ e
    · obtain ⟨h, e, hsz, hit, hk⟩ := hs'
      subst e
      have ln : (List.map Value.ref ls).length = ls.length := by simp
      rw [ln] at hsz hit ⊢
      refine wpAny_pure ?_
      have lx : ∀ n0 n : Nat, (ixs n0 n).length = n := fun n0 n => by unfold ixs; simp
      have big : sizeLine = 16777216 := sizeLine_eq
      refine wpAny_bind (wpAny_newTuple ?_ (by simp [lx]; omega))
      refine wpAny_bind (wpAny_newTuple ?_ (by simp [lx]; omega))
      refine wpAny_bind ?_
      unfold Builtin.SmallTypes.newRecord
      dsimp only
      refine wpAny_newObj_type ?_ ?_
      · refine wpAny_pure ⟨_, rfl, ?_⟩
        generalize hA : (List.map Value.ref (ixs hp.objs.size ls.length)).toArray = is1
        generalize hB : (List.map (fun _ => Value.none) (List.map Value.ref (ixs hp.objs.size ls.length))).toArray = nn
        have nsz : nn.size = ls.length := by rw [← hB]; simp [lx]
        have z1 : (h.push { cls := .type "tuple", data := .seq is1 }).objs.size = hp.objs.size + ls.length + 1 := by rw [Heap.size_push, hsz]
        have z2 : ((h.push { cls := .type "tuple", data := .seq is1 }).push { cls := .type "tuple", data := .seq nn }).objs.size = hp.objs.size + ls.length + 2 := by rw [Heap.size_push, z1]
        show R (.ok (.ret (.ref ((h.push { cls := .type "tuple", data := .seq is1 }).push { cls := .type "tuple", data := .seq nn }).objs.size))) _
        rw [z2]
        refine hq _ ⟨?_, ?_, ⟨nn, nsz, ?_⟩, fun j l hj => ?_, fun c o e => ?_⟩
        · have q := Heap.get?_push_size ((h.push { cls := .type "tuple", data := .seq is1 }).push { cls := .type "tuple", data := .seq nn }) (o := { cls := .type "zip", data := .fields #[.none, .bool false, .bool false, .ref h.objs.size, .ref (h.push { cls := .type "tuple", data := .seq is1 }).objs.size] }) rfl
          rw [z2, z1, hsz] at q
          rw [z1, hsz]
          exact q
        · have q := Heap.get?_push_size h (o := { cls := .type "tuple", data := .seq is1 }) rfl
          rw [hsz] at q
          rw [hA]
          exact Heap.get?_push_of_some _ (Heap.get?_push_of_some _ q)
        · have q := Heap.get?_push_size (h.push { cls := .type "tuple", data := .seq is1 }) (o := { cls := .type "tuple", data := .seq nn }) rfl
          rw [z1] at q
          exact Heap.get?_push_of_some _ q
        · exact (hit j l hj (List.getElem?_eq_some_iff.mp hj).1).at fun o e => Heap.get?_push_of_some _ (Heap.get?_push_of_some _ (Heap.get?_push_of_some _ e))
        · exact Heap.get?_push_of_some _ (Heap.get?_push_of_some _ (Heap.get?_push_of_some _ (hk c o e)))
      · simp [sizeOk, Builtin.SmallTypes.ownedTupleFields, big]
end Zs
set_option linter.all false
set_option maxRecDepth 100000
set_option autoImplicit false
namespace Zs
open PySem PySem.Spec PyProof.Rows L2
def ItS (K : PySem.W.Frag) (as : List Addr) : It :=
  ⟨fun i H => ∀ a ∈ as, ∃ xs, SqT K H a xs ∧ i < xs.length,
   fun i H v H' => ∃ T ys, v = .ref T ∧ H T = none ∧ H' = upd H T (.tup ys) ∧ ys.length = as.length ∧ ∀ (j : Nat) (a : Addr) (xs : List V), as[j]? = some a → SqT K H a xs → xs[i]? = ys[j]?,
   fun i H => ∃ a r xs, as = a :: r ∧ SqT K H a xs ∧ xs.length ≤ i⟩
theorem cols {X : Cx} {pins : List (Addr × Obj)} {σ : L2.St} {H : Hp} {s : Shared} {i : Nat} (I : Inv X pins σ H s) : ∀ as : List Addr, (∀ a ∈ as, ∃ xs, SqT X.K H a xs ∧ i < xs.length) → ∃ (ys : List V) (us : List Value), ys.length = as.length ∧ us.length = as.length ∧ Vals ys us ∧
    (∀ (j : Nat) (a : Addr), as[j]? = some a → ∃ items, s.heap.IsTuple a items ∧ items[i]? = us[j]?) ∧ ∀ (j : Nat) (a : Addr) (xs : List V), as[j]? = some a → SqT X.K H a xs → xs[i]? = ys[j]?
  | [], _ => ⟨[], [], rfl, rfl, .nil, fun j a h => by simp at h, fun j a xs h => by simp at h⟩
  | a :: r, h => by
    obtain ⟨ys, us, l1, l2, v, h1, h2⟩ := cols I r (fun b hb => h b (by simp [hb]))
    obtain ⟨xs, hq, hi⟩ := h a (by simp)
    obtain ⟨its, rv, p, _⟩ := I.tuple hq
    obtain ⟨u, hu, ru⟩ := rv.get (List.getElem?_eq_getElem hi)
    refine ⟨xs[i] :: ys, u :: us, by simp [l1], by simp [l2], .cons ru v, fun j b hj => ?_, fun j b zs hj hz => ?_⟩
    · cases j with
      | zero =>
        simp at hj
        subst hj
        exact ⟨its.toArray, p, by simpa using hu⟩
      | succ j => exact h1 j b (by simpa using hj)
    · cases j with
      | zero =>
        simp at hj
        subst hj
        rw [I.tuple_inj hz hq]
        simp [hi]
      | succ j => exact h2 j b zs (by simpa using hj) hz
def TnS (z TI TO : Addr) (is as : List Addr) (i : Nat) (h : Heap) : Prop := ∃ f0 f1, F0 f0 ∧ F1 f1 ∧ IsZ h z TI TO f0 f1 ∧ IsTup h TI (is.map Value.ref).toArray ∧ (∃ outs, outs.size = is.length ∧ IsTup h TO outs) ∧ ∀ (j : Nat) (it l : Addr), is[j]? = some it → as[j]? = some l → h.IsTupleIter it l i
theorem turn_zipS {P : Program} {w : World} {K : PySem.W.Frag} {nm : Str} {tpos : Pos} {z TI TO : Addr} {is as : List Addr} (D : Apart z TI TO is as) (hn : is ≠ []) (hbig : is.length ≤ 1000) (hl : is.length = as.length) :
    Turn P w K (.Name nm tpos) (ItS K as) (z :: TI :: TO :: is) z (TnS z TI TO is as) where
  mem := by simp
  obj := fun i h st c hc => by
    obtain ⟨f0, f1, _, _, hz, hTI, ⟨outs, _, hTO⟩, hi⟩ := st
    rcases List.mem_cons.mp hc with q | hc
    · rw [q]; exact ⟨_, hz, fun v q => nomatch q⟩
    rcases List.mem_cons.mp hc with q | hc
    · rw [q]; exact ⟨_, hTI, fun v q => nomatch q⟩
    rcases List.mem_cons.mp hc with q | hc
    · rw [q]; exact ⟨_, hTO, fun v q => nomatch q⟩
    obtain ⟨j, hj, e⟩ := List.getElem_of_mem hc
    obtain ⟨o, e1, _, d1⟩ := hi j c (as[j]'(by omega)) (by rw [← e]; exact List.getElem?_eq_getElem hj) (List.getElem?_eq_getElem _)
    exact ⟨o, e1, fun v q => by rw [d1] at q; cases q⟩
  keep := fun i h h' st k => by
    obtain ⟨f0, f1, g0, g1, hz, hTI, ⟨outs, ho, hTO⟩, hi⟩ := st
    exact ⟨f0, f1, g0, g1, k z (by simp) _ hz, k TI (by simp) _ hTI, ⟨outs, ho, k TO (by simp) _ hTO⟩, fun j it l h1 h2 => (hi j it l h1 h2).at fun o q => k it (by simp [List.mem_of_getElem? h1]) o q⟩
  item := by
    intro X hP hw hK hc i pins s σ H E I hf st hg
    subst hP hw hK
    obtain ⟨f0, f1, g0, g1, hz, hTI, ⟨outs, ho, hTO⟩, hi⟩ := st
    obtain ⟨ys, us, l1, l2, v, h1, h2⟩ := cols I as hg
    have big : sizeLine = 16777216 := sizeLine_eq
    refine pyNext_item D hn (by omega) hl (by omega) hz g0 g1 hTI hTO ho hi h1 fun h' f0' f1' g0' g1' m ⟨outs', ho', hTO'⟩ hT => ?_
    refine ⟨_, rfl, ?_⟩
    show wpAny _ _ (pure ()) _ _ _
    have new : ObjOk X.prog X.w (upd H s.heap.objs.size (.tup ys)) h' s.heap.objs.size (.tup ys) := ⟨by show ys.length ≤ sizeLine; omega, us, v, ⟨_, hT, rfl, _, rfl⟩⟩
    have I1 : Inv X pins σ (upd H s.heap.objs.size (.tup ys)) { s with heap := h' } :=
      I.turnedNew (t' := s.toks) (ch := z :: TI :: TO :: is) (fun c o hb q => m.keep c o (fun z' => hb (by simp [z'])) (fun z' => hb (by simp [z'])) (fun z' => hb (by simp [z'])) q) hf (Nat.le_refl _) new
    refine wpAny_pure ⟨.ref s.heap.objs.size, _, I1, rfl, ⟨_, ys, rfl, I.hok.fresh (Nat.le_refl _), rfl, l1, h2⟩, ⟨f0', f1', g0', g1', m.zz, m.ti, ⟨outs', ho', hTO'⟩, fun j it l e1 e2 => m.on j it l e1 e2 (List.getElem?_eq_some_iff.mp e1).1⟩, fun c hcm => ?_⟩
    have hlt : c < s.heap.objs.size := by
      rcases List.mem_cons.mp hcm with q | hcm
      · rw [q]; exact Heap.lt_size hz
      rcases List.mem_cons.mp hcm with q | hcm
      · rw [q]; exact Heap.lt_size hTI
      rcases List.mem_cons.mp hcm with q | hcm
      · rw [q]; exact Heap.lt_size hTO
      obtain ⟨j, hj, e⟩ := List.getElem_of_mem hcm
      obtain ⟨o, e1, _⟩ := hi j c (as[j]'(by omega)) (by rw [← e]; exact List.getElem?_eq_getElem hj) (List.getElem?_eq_getElem _)
      exact Heap.lt_size e1
    rw [upd_ne (Nat.ne_of_lt hlt)]
    exact (hf c hcm).1
  done := by
    intro X hP hw hK hc i pins s σ H E I hf st hg
    subst hP hw hK
    obtain ⟨f0, f1, g0, g1, hz, hTI, ⟨outs, ho, hTO⟩, hi⟩ := st
    obtain ⟨a, r, xs, ea, hq, hx⟩ := hg
    subst ea
    cases is with
    | nil => exact absurd rfl hn
    | cons i0 ir =>
      obtain ⟨its, rv, p, _⟩ := I.tuple hq
      have l1 := rv.length
      exact pyNext_end (I.ok.hd hc) D hz g0 g1 hTI hTO (hi 0 i0 a rfl rfl) p (by simp; omega) fun h' hk => ⟨rfl, I.turnedL (t' := s.toks) (ch := z :: TI :: TO :: i0 :: ir) (fun c o hb q =>
        hk c o (fun z' => hb (by simp [z'])) (fun z' => hb (by simp [z'])) (fun z' => hb (by
          rcases List.mem_cons.mp z' with e | e
          · simp [e]
          · simp [e])) q) hf⟩
  self := fun A i s Q E st h => by
    obtain ⟨f0, f1, _, _, hz, _⟩ := st
    exact pyIter_z hz h
end Zs
set_option linter.all false
set_option maxRecDepth 100000
set_option autoImplicit false
namespace Zs
open PySem PySem.Spec PyProof.Rows L2
section
variable {prog : Program} {w : World} {A : Around} {E : Value → Shared → Prop} {s : Shared}
theorem newCall (ls : List Addr) (h : ls.length ≤ 9) : checkBuiltinCall "zip.__new__" ⟨.type "zip" :: ls.map Value.ref, []⟩ = pure () := by
  match ls, h with
  | [], _ => kernel_rfl
  | [_], _ => kernel_rfl
  | [_, _], _ => kernel_rfl
  | [_, _, _], _ => kernel_rfl
  | [_, _, _, _], _ => kernel_rfl
  | [_, _, _, _, _], _ => kernel_rfl
  | [_, _, _, _, _, _], _ => kernel_rfl
  | [_, _, _, _, _, _, _], _ => kernel_rfl
  | [_, _, _, _, _, _, _, _], _ => kernel_rfl
  | [_, _, _, _, _, _, _, _, _], _ => kernel_rfl
  | _ :: _ :: _ :: _ :: _ :: _ :: _ :: _ :: _ :: _ :: _, h => simp at h
theorem typeCall (us : List Value) : checkTypeCall "zip" ⟨us, []⟩ = pure () := by kernel_rfl
theorem initArgs (o : Value) (us : List Value) : argsOk "object.__init__" ⟨o :: us, []⟩ := by
  unfold argsOk; rw [signature?_of (id := "object.__init__") (n := ['_', '_', 't', 'i', 'n', 'i', '_', '_']) (o := ['t', 'c', 'e', 'j', 'b', 'o']) (by kernel_rfl) F.owner_object]; kernel_rfl
theorem call_zip (ls : List Addr) (h9 : ls.length ≤ 9) {Q : Value → Shared → Prop} (hl : ∀ l ∈ ls, ∃ items, s.heap.IsTuple l items)
    (h : ∀ h', NewZ s.heap h' ls → Q (.ref (s.heap.objs.size + ls.length + 2)) { s with heap := h' }) : wpAny (model prog w) A (call (.type "zip") (ls.map Value.ref)) Q E s := by
  refine callType_new F.called_zip (by decide) (typeCall _) (newCall ls h9) (fun obj => initArgs obj _) F.entry_zip_new (meets_new ls) ⟨by omega, hl, fun h' n => ?_⟩
  exact ⟨⟨_, n.zz, rfl⟩, h h' n⟩
end
theorem refs_of : ∀ {as : List Addr} {us : List Value}, Vals (as.map V.ref) us → us = as.map Value.ref
  | [], _, .nil => rfl
  | a :: r, _, .cons h t => by
    have h : _ = Value.ref a := h
    rw [List.map_cons, refs_of t, h]
def iZipS (K : PySem.W.Frag) (te : TE) : TI := fun σ H R => te σ H fun v H1 => ∃ b as, v = .ref b ∧ (SqT K H1 b (as.map V.ref) ∨ SqL K H1 b (as.map V.ref)) ∧ as ≠ [] ∧ as.length ≤ 9 ∧ (∀ a ∈ as, ∃ xs, SqT K H1 a xs) ∧ R (ItS K as) H1
theorem pi_zipS {X : Cx} {e : Expr} {te : TE} {nm : Str} {p pos tpos sp : Pos} (hg : Gl X "zip") (hst : starEach [.Starred e sp] X.env = [(true, eval e X.env)]) (hm : X.mg "zip" = none) (he : PE X e te) : PI X (.Name nm tpos) (.Call (.Name "zip" p) [.Starred e sp] [] pos) (iZipS X.K te) := by
  refine ⟨fun pins s σ H R I h => ?_⟩
  refine Call_ (ld_blt I hg hm PyProof.Rows.boot_zip ?_)
  rw [hst]
  refine PySem.W.ks_call (P := fun _ => True) rfl (fun h _ => ⟨.machine, .inr (.inl rfl), .now⟩) (PySem.W.ks_lone (thn (he.run pins s σ H _ I h) fun v s1 ⟨y, H1, I1, ry, b, as, ey, hb, hne, h9, hrows, q⟩ => ?_))
  subst ey
  obtain rfl : v = Value.ref b := ry
  refine StX.star_any I1 hb fun us s2 I2 rv => ⟨trivial, ?_⟩
  have eu := refs_of rv
  subst eu
  show wpAny _ _ (call (.type "zip") (as.map Value.ref)) _ _ _
  have rows : ∀ l ∈ as, ∃ items, s2.heap.IsTuple l items := fun l hl => by
    obtain ⟨xs, hx⟩ := hrows l hl
    obtain ⟨its, _, p, _⟩ := I2.tuple hx
    exact ⟨_, p⟩
  have lt : ∀ l ∈ as, l < s2.heap.objs.size := fun l hl => by
    obtain ⟨items, o, ho, _⟩ := rows l hl
    exact Heap.lt_size ho
  refine call_zip as h9 rows fun h' n => pyIter_z n.zz ?_
  have mi : ∀ c : Nat, c ∈ ixs s2.heap.objs.size as.length → s2.heap.objs.size ≤ c ∧ c < s2.heap.objs.size + as.length := fun c hc => by
    unfold ixs at hc
    obtain ⟨j, hj, e⟩ := List.mem_map.mp hc
    have hj := List.mem_range.mp hj
    have e : @Eq Nat (s2.heap.objs.size + j) c := e
    exact ⟨by omega, by omega⟩
  have li : (ixs s2.heap.objs.size as.length).length = as.length := by unfold ixs; simp
  have nd : (ixs s2.heap.objs.size as.length).Nodup := by
    unfold ixs
    refine List.Pairwise.map _ ?_ List.nodup_range
    intro a b h e
    have e : @Eq Nat (s2.heap.objs.size + a) (s2.heap.objs.size + b) := e
    omega
  have D : Apart (s2.heap.objs.size + as.length + 2) (s2.heap.objs.size + as.length) (s2.heap.objs.size + as.length + 1) (ixs s2.heap.objs.size as.length) as :=
    ⟨(by omega : s2.heap.objs.size + as.length ≠ s2.heap.objs.size + as.length + 2), (by omega : s2.heap.objs.size + as.length + 1 ≠ s2.heap.objs.size + as.length + 2), (by omega : s2.heap.objs.size + as.length ≠ s2.heap.objs.size + as.length + 1), nd,
      fun z => by have h : @LT.lt Nat _ (s2.heap.objs.size + as.length + 2) (s2.heap.objs.size + as.length) := (mi _ z).2; omega, fun z => by have h : @LT.lt Nat _ (s2.heap.objs.size + as.length) (s2.heap.objs.size + as.length) := (mi _ z).2; omega, fun z => by have h : @LT.lt Nat _ (s2.heap.objs.size + as.length + 1) (s2.heap.objs.size + as.length) := (mi _ z).2; omega,
      fun z => by have h : @LT.lt Nat _ (s2.heap.objs.size + as.length + 2) s2.heap.objs.size := lt _ z; omega, fun z => by have h : @LT.lt Nat _ (s2.heap.objs.size + as.length + 1) s2.heap.objs.size := lt _ z; omega, fun l hl z => by have h : @LT.lt Nat _ l s2.heap.objs.size := lt _ hl; have h2 : @LE.le Nat _ s2.heap.objs.size l := (mi _ z).1; omega⟩
  have I3 : Inv X pins σ H1 { s2 with heap := h' } := I2.kept (t' := s2.toks) n.keep
  refine ⟨s2.heap.objs.size + as.length + 2, _, _, _, H1, rfl, I3, turn_zipS D (fun z => hne (List.eq_nil_of_length_eq_zero (by rw [← li, z]; rfl))) (by rw [li]; omega) li, ?_, fun c hcm => ?_, q⟩
  · obtain ⟨outs, ho, hTO⟩ := n.to
    refine ⟨.none, .bool false, .inl rfl, ⟨_, rfl⟩, n.zz, n.ti, ⟨outs, by rw [li]; exact ho, hTO⟩, fun j it l e1 e2 => ?_⟩
    have hj := (List.getElem?_eq_some_iff.mp e2).1
    have : it = s2.heap.objs.size + j := by
      unfold ixs at e1
      rw [List.getElem?_map, List.getElem?_range hj] at e1
      simp at e1
      exact e1.symm
    rw [this]
    exact n.it j l e2
  · have hle : @LE.le Nat _ s2.heap.objs.size c := by
      rcases List.mem_cons.mp hcm with e | hcm
      · have e : @Eq Nat c (s2.heap.objs.size + as.length + 2) := e
        omega
      rcases List.mem_cons.mp hcm with e | hcm
      · have e : @Eq Nat c (s2.heap.objs.size + as.length) := e
        omega
      rcases List.mem_cons.mp hcm with e | hcm
      · have e : @Eq Nat c (s2.heap.objs.size + as.length + 1) := e
        omega
      exact (mi c hcm).1
    exact I2.fpOk hle (I2.hok.fresh hle)
end Zs
set_option Elab.async false
set_option linter.all false
set_option maxRecDepth 100000
set_option autoImplicit false
/-! zip(*rows). -/
namespace Ab
open PySem PySem.Spec PyProof.Rows L2
/-- the columns of some rows of equal length n -/
def colsD (rows : List (List D)) (n : Nat) : List D := (List.range n).map fun j => .tup (rows.map fun r => r[j]?.getD .non)
theorem colsD_length (rows : List (List D)) (n : Nat) : (colsD rows n).length = n := by simp [colsD]
theorem colsD_get {rows : List (List D)} {n i : Nat} {d : D} (h : (colsD rows n)[i]? = some d) : i < n ∧ d = .tup (rows.map fun r => r[i]?.getD .non) := by
  unfold colsD at h
  rw [List.getElem?_map] at h
  have hi : i < n := by
    rcases Nat.lt_or_ge i n with q | q
    · exact q
    · rw [List.getElem?_eq_none (by simpa using q)] at h
      simp at h
  rw [List.getElem?_range hi] at h
  simp at h
  exact ⟨hi, h.symm⟩
def aZipS (te : AE) : AI := fun S Q X => te S (fun d S1 => ∃ (rows : List (List D)) (n : Nat), (d = .tup (rows.map .tup) ∨ d = .lst (rows.map .tup)) ∧ rows ≠ [] ∧ rows.length ≤ 9 ∧ (∀ r ∈ rows, r.length = n) ∧ Q (.fixed (colsD rows n)) S1) X
section
variable {K : PySem.W.Frag} {αs : Al} {L : Addr → Prop} {H : Hp}
theorem RpAll.ofGet : ∀ {vs : List V} {ds : List D}, vs.length = ds.length → (∀ (i : Nat) v d, vs[i]? = some v → ds[i]? = some d → Rp K αs L H v d) → RpAll K αs L H vs ds
  | [], [], _, _ => .nil
  | _ :: _, [], h, _ => by simp at h
  | [], _ :: _, h, _ => by simp at h
  | v :: vs, d :: ds, h, g => .cons (g 0 v d rfl rfl) (RpAll.ofGet (by simpa using h) fun i v d h1 h2 => g (i + 1) v d (by simpa using h1) (by simpa using h2))
/-- rows are tuples -/
theorem rowsT : ∀ {vs : List V} {rows : List (List D)}, RpAll K αs L H vs (rows.map .tup) → ∃ as : List Addr, vs = as.map V.ref ∧ as.length = rows.length ∧ ∀ (j : Nat) (a : Addr) (r : List D), as[j]? = some a → rows[j]? = some r → ∃ xs, SqT K H a xs ∧ RpAll K αs L H xs r
  | _, [], .nil => ⟨[], rfl, rfl, fun j a r h => by simp at h⟩
  | _, row :: rows, .cons h t => by
    obtain ⟨as, e, l, g⟩ := rowsT t
    cases h with
    | @tup a vs _ q1 q2 =>
      refine ⟨a :: as, by rw [e]; rfl, by simp [l], fun j b r h1 h2 => ?_⟩
      cases j with
      | zero =>
        simp at h1 h2
        subst h1 h2
        exact ⟨vs, q1, q2⟩
      | succ j => exact g j b r (by simpa using h1) (by simpa using h2)
end
section
variable {K : PySem.W.Frag} {αs : Al} {st : Store} {H : Hp} {as : List Addr} {rows : List (List D)} {n : Nat}
theorem itS_ok (sr : SRel K αs st H) (hlen : as.length = rows.length) (hne : rows ≠ []) (hn : ∀ r ∈ rows, r.length = n)
    (hx : ∀ (j : Nat) (a : Addr) (r : List D), as[j]? = some a → rows[j]? = some r → ∃ xs, SqT K H a xs ∧ RpAll K αs (Lv αs st) H xs r) : ItOk K αs st H (Zs.ItS K as) (.fixed (colsD rows n)) where
  item := fun αs' hs σ' H' S' hh R' e' _ i d hd => by
    have C := e'.carryH sr hh
    obtain ⟨hi, e⟩ := colsD_get hd
    subst e
    have hx' : ∀ (j : Nat) (a : Addr) (r : List D), as[j]? = some a → rows[j]? = some r → ∃ xs, SqT K H' a xs ∧ RpAll K (αs'.hides hs) (Lv (αs'.hides hs) S'.st) H' xs r := fun j a r h1 h2 => by
      obtain ⟨xs, q1, q2⟩ := hx j a r h1 h2
      exact ⟨xs, C.sqT q1, q2.mono C⟩
    refine ⟨fun a ha => ?_, fun u H'' yl => ?_⟩
    · obtain ⟨j, hj, e⟩ := List.getElem_of_mem ha
      have hj2 : j < rows.length := by omega
      obtain ⟨xs, q1, q2⟩ := hx' j a rows[j] (by rw [← e]; exact List.getElem?_eq_getElem hj) (List.getElem?_eq_getElem hj2)
      exact ⟨xs, q1, by rw [q2.length, hn _ (List.getElem_mem hj2)]; exact hi⟩
    · obtain ⟨T, ys, e1, hT, e2, l, k⟩ := yl
      subst e1 e2
      have rp : RpAll K (αs'.hides hs) (Lv (αs'.hides hs) S'.st) H' ys (rows.map fun r => r[i]?.getD .non) := by
        refine RpAll.ofGet (by simp; omega) fun j v d h1 h2 => ?_
        have hj : j < ys.length := (List.getElem?_eq_some_iff.mp h1).1
        have hja : j < as.length := by omega
        have hjr : j < rows.length := by omega
        obtain ⟨xs, q1, q2⟩ := hx' j as[j] rows[j] (List.getElem?_eq_getElem hja) (List.getElem?_eq_getElem hjr)
        have z := k j as[j] xs (List.getElem?_eq_getElem hja) q1
        rw [h1] at z
        rw [List.getElem?_map, List.getElem?_eq_getElem hjr] at h2
        obtain ⟨d', g1, g2⟩ := q2.getV z
        simp [g1] at h2
        rw [← h2]
        exact g2
      exact ⟨R'.s.new hT, Ext.new R'.s hT, Rp.newT R'.s hT rp⟩
  stop := fun αs' hs σ' H' S' hh R' e' _ => by
    have C := e'.carryH sr hh
    cases as with
    | nil =>
      cases rows with
      | nil => exact absurd rfl hne
      | cons r rr => simp at hlen
    | cons a ar =>
      cases rows with
      | nil => exact absurd rfl hne
      | cons r rr =>
        obtain ⟨xs, q1, q2⟩ := hx 0 a r rfl rfl
        refine ⟨a, ar, xs, rfl, C.sqT q1, ?_⟩
        show xs.length ≤ (colsD (r :: rr) n).length
        rw [colsD_length, q2.length, hn r (by simp)]
        exact Nat.le_refl _
end
section
variable {X : Cx} {W : WX} {e : Expr} {te : AE} {nm : Str} {p pos tpos sp : Pos}
theorem ji_zipS (hg : Gl X "zip") (hm : X.mg "zip" = none) (he : JE X W e te) (hst : starEach [.Starred e sp] X.env = [(true, eval e X.env)] := by rfl) :
    JI X W (.Name nm tpos) (.Call (.Name "zip" p) [.Starred e sp] [] pos) (aZipS te) := PI.imp (Zs.pi_zipS hg hst hm he) fun σ H R ⟨αs, S, QA, XA, Re, h, q, xo⟩ => by
  refine ⟨αs, S, _, XA, Re, h, fun αs1 v H1 d S1 R1 e1 rv ⟨rows, n, hd, hne, h9, hn, h1⟩ => ?_, xo⟩
  rcases hd with hd | hd
  · subst hd
    cases rv with
    | @tup a vs _ t1 q1 =>
      obtain ⟨as, ev, l, g⟩ := rowsT q1
      subst ev
      refine ⟨a, as, rfl, .inl t1, fun z => hne (List.eq_nil_of_length_eq_zero (by rw [← l, z]; rfl)), by omega, fun b hb => ?_, q αs1 _ H1 S1 _ R1 e1 (itS_ok R1.s l hne hn g) h1⟩
      obtain ⟨j, hj, e⟩ := List.getElem_of_mem hb
      obtain ⟨xs, q1, _⟩ := g j b (rows[j]'(by omega)) (by rw [← e]; exact List.getElem?_eq_getElem hj) (List.getElem?_eq_getElem _)
      exact ⟨xs, q1⟩
  · subst hd
    cases rv with
    | @lst a vs _ t1 n1 q1 =>
      obtain ⟨as, ev, l, g⟩ := rowsT q1
      subst ev
      refine ⟨a, as, rfl, .inr (.inl (.inl t1)), fun z => hne (List.eq_nil_of_length_eq_zero (by rw [← l, z]; rfl)), by omega, fun b hb => ?_, q αs1 _ H1 S1 _ R1 e1 (itS_ok R1.s l hne hn g) h1⟩
      obtain ⟨j, hj, e⟩ := List.getElem_of_mem hb
      obtain ⟨xs, q1, _⟩ := g j b (rows[j]'(by omega)) (by rw [← e]; exact List.getElem?_eq_getElem hj) (List.getElem?_eq_getElem _)
      exact ⟨xs, q1⟩
end
end Ab
set_option Elab.async false
set_option linter.all false
set_option maxRecDepth 100000
set_option autoImplicit false
/-! Rows and matrices of fractions: their size, sums, products. -/
namespace Ab
open PySem PySem.Spec PyProof.Rows
/-- q is k/d for a k of at most b -/
def Gr (d b : Nat) (q : Rat) : Prop := d ≠ 0 ∧ ∃ k : Int, k.natAbs ≤ b ∧ q = Rat.divInt k d
theorem Gr.sm {d b n : Nat} {q : Rat} (h : Gr d b q) (hd : d < 2 ^ n) (hb : b < 2 ^ n) : SmQ n q := by
  obtain ⟨h0, k, hk, e⟩ := h
  subst e
  refine sm_divInt (by omega) ?_ ?_
  · unfold Sm; omega
  · unfold Sm; rw [Int.natAbs_natCast]; exact hd
theorem Gr.mono {d b c : Nat} {q : Rat} (h : Gr d b q) (hb : b ≤ c) : Gr d c q := by
  obtain ⟨h0, k, hk, e⟩ := h
  exact ⟨h0, k, by omega, e⟩
theorem Gr.add {d b c : Nat} {p q : Rat} (h : Gr d b p) (g : Gr d c q) : Gr d (b + c) (p + q) := by
  obtain ⟨h0, k, hk, e⟩ := h
  obtain ⟨_, l, hl, e2⟩ := g
  subst e e2
  have hd : (d : Int) ≠ 0 := by omega
  refine ⟨h0, k + l, by have := Int.natAbs_add_le k l; omega, ?_⟩
  rw [Rat.divInt_add_divInt _ _ hd hd, ← Int.add_mul, Rat.divInt_mul_right hd]
theorem Gr.mul {d e b c : Nat} {p q : Rat} (h : Gr d b p) (g : Gr e c q) : Gr (d * e) (b * c) (p * q) := by
  obtain ⟨h0, k, hk, e1⟩ := h
  obtain ⟨h1, l, hl, e2⟩ := g
  subst e1 e2
  refine ⟨Nat.mul_ne_zero h0 h1, k * l, by rw [Int.natAbs_mul]; exact Nat.mul_le_mul hk hl, ?_⟩
  rw [Rat.divInt_mul_divInt, Int.natCast_mul]
theorem Gr.zero {d b : Nat} (h : d ≠ 0) : Gr d b 0 := ⟨h, 0, by simp, by simp⟩
theorem Gr.scale {d b e : Nat} {p : Rat} (h : Gr d b p) (he : e ≠ 0) : Gr (d * e) (b * e) p := by
  have := h.mul (q := 1) (e := e) (c := e) ⟨he, e, by simp, by rw [Rat.divInt_self' (by omega : (e : Int) ≠ 0)]⟩
  rwa [Rat.mul_one] at this
/-! ### sums -/
def sumQ (l : List Rat) : Rat := l.foldl (· + ·) 0
theorem foldl_q (l : List Rat) : ∀ a : Rat, l.foldl (· + ·) a = a + sumQ l := by
  unfold sumQ
  induction l with
  | nil => intro a; simp [Rat.add_zero]
  | cons x r ih =>
    intro a
    rw [List.foldl_cons, List.foldl_cons, ih, ih (0 + x), Rat.zero_add, Rat.add_assoc]
theorem sumQ_nil : sumQ [] = 0 := rfl
theorem sumQ_cons (x : Rat) (r : List Rat) : sumQ (x :: r) = x + sumQ r := by
  show (x :: r).foldl (· + ·) 0 = _
  rw [List.foldl_cons, foldl_q, Rat.zero_add]
theorem sumQ_add {α : Type} (l : List α) (f g : α → Rat) : sumQ (l.map fun x => f x + g x) = sumQ (l.map f) + sumQ (l.map g) := by
  induction l with
  | nil => simp [sumQ_nil, Rat.add_zero]
  | cons x r ih =>
    simp only [List.map_cons, sumQ_cons, ih]
    grind
theorem sumQ_mul {α : Type} (l : List α) (f : α → Rat) (c : Rat) : sumQ (l.map fun x => c * f x) = c * sumQ (l.map f) := by
  induction l with
  | nil => simp [sumQ_nil, Rat.mul_zero]
  | cons x r ih =>
    simp only [List.map_cons, sumQ_cons, ih]
    rw [Rat.mul_add]
theorem sumQ_mulR {α : Type} (l : List α) (f : α → Rat) (c : Rat) : sumQ (l.map fun x => f x * c) = sumQ (l.map f) * c := by
  rw [Rat.mul_comm, ← sumQ_mul]
  congr 1
  exact List.map_congr_left fun x _ => Rat.mul_comm _ _
theorem sumQ_zero {α : Type} (l : List α) : sumQ (l.map fun _ => (0 : Rat)) = 0 := by
  induction l with
  | nil => rfl
  | cons x r ih => simp only [List.map_cons, sumQ_cons, ih, Rat.add_zero]
theorem sumQ_swap {α β : Type} (l : List α) (m : List β) (f : α → β → Rat) : sumQ (l.map fun x => sumQ (m.map fun y => f x y)) = sumQ (m.map fun y => sumQ (l.map fun x => f x y)) := by
  induction l with
  | nil => simp [sumQ_nil, sumQ_zero]
  | cons x r ih =>
    simp only [List.map_cons, sumQ_cons, ih, sumQ_add]
theorem Gr.sum {d b : Nat} (h0 : d ≠ 0) : ∀ (l : List Rat), (∀ q ∈ l, Gr d b q) → Gr d (l.length * b) (sumQ l)
  | [], _ => by rw [sumQ_nil]; exact Gr.zero h0
  | x :: r, h => by
    rw [sumQ_cons, List.length_cons, Nat.add_mul, Nat.add_comm, Nat.one_mul]
    exact (h x (by simp)).add (Gr.sum h0 r fun q hq => h q (by simp [hq]))
end Ab
set_option Elab.async false
set_option linter.all false
set_option maxRecDepth 100000
set_option autoImplicit false
namespace Ab
open PySem PySem.Spec PyProof.Rows
abbrev rg (n : Nat) : List Nat := List.range n
def VD (n : Nat) (f : Nat → Rat) : D := .tup ((List.range n).map fun i => qD (f i))
def VL (n : Nat) (f : Nat → Rat) : D := .lst ((List.range n).map fun i => qD (f i))
def MD (n m : Nat) (f : Nat → Nat → Rat) : D := .tup ((List.range n).map fun i => VD m (f i))
def dotF (n : Nat) (f g : Nat → Rat) : Rat := sumQ ((List.range n).map fun t => f t * g t)
def mulF (k : Nat) (f g : Nat → Nat → Rat) : Nat → Nat → Rat := fun i j => dotF k (f i) fun t => g t j
def unitF : Nat → Nat → Rat := fun i j => if i = j then 1 else 0
theorem VD_congr {n : Nat} {f g : Nat → Rat} (h : ∀ i, i < n → f i = g i) : VD n f = VD n g := by
  unfold VD
  congr 1
  exact List.map_congr_left fun i hi => by rw [h i (List.mem_range.mp hi)]
theorem MD_congr {n m : Nat} {f g : Nat → Nat → Rat} (h : ∀ i j, i < n → j < m → f i j = g i j) : MD n m f = MD n m g := by
  unfold MD
  congr 1
  exact List.map_congr_left fun i hi => VD_congr fun j hj => h i j (List.mem_range.mp hi) hj
theorem dotF_congr {n : Nat} {f g f' g' : Nat → Rat} (h : ∀ i, i < n → f i = f' i) (h2 : ∀ i, i < n → g i = g' i) : dotF n f g = dotF n f' g' := by
  unfold dotF
  congr 1
  exact List.map_congr_left fun i hi => by rw [h i (List.mem_range.mp hi), h2 i (List.mem_range.mp hi)]
theorem mulF_assoc (k l : Nat) (f g h : Nat → Nat → Rat) : mulF l (mulF k f g) h = mulF k f (mulF l g h) := by
  funext i j
  unfold mulF dotF
  have e1 : ∀ t, sumQ ((List.range k).map fun s => f i s * g s t) * h t j = sumQ ((List.range k).map fun s => f i s * g s t * h t j) := fun t => by rw [sumQ_mulR]
  have e2 : ∀ s, f i s * sumQ ((List.range l).map fun t => g s t * h t j) = sumQ ((List.range l).map fun t => f i s * g s t * h t j) := fun s => by
    rw [← sumQ_mul]
    congr 1
    exact List.map_congr_left fun t _ => by grind
  simp only [e1, e2]
  exact sumQ_swap _ _ _
theorem sum_one (n : Nat) (k : Nat) (x : Nat → Rat) : sumQ ((List.range n).map fun t => if t = k then x t else 0) = if k < n then x k else 0 := by
  induction n with
  | zero => simp [sumQ_nil]
  | succ n ih =>
    rw [List.range_succ, List.map_append]
    unfold sumQ at *
    rw [List.foldl_append, ih]
    simp only [List.map_cons, List.map_nil, List.foldl_cons, List.foldl_nil]
    by_cases h1 : k = n
    · subst h1
      simp [Rat.zero_add]
    · by_cases h2 : k < n
      · rw [if_pos h2, if_neg (by omega), if_pos (by omega), Rat.add_zero]
      · rw [if_neg h2, if_neg (by omega), if_neg (by omega), Rat.add_zero]
theorem mulF_unit_l {k : Nat} {g : Nat → Nat → Rat} {i j : Nat} (hi : i < k) : mulF k unitF g i j = g i j := by
  unfold mulF dotF unitF
  have : ∀ t, (if i = t then (1 : Rat) else 0) * g t j = if t = i then g t j else 0 := fun t => by
    by_cases h : i = t
    · rw [if_pos h, if_pos h.symm, Rat.one_mul]
    · rw [if_neg h, if_neg (fun z => h z.symm), Rat.zero_mul]
  simp only [this]
  rw [sum_one, if_pos hi]
theorem mulF_unit_r {k : Nat} {g : Nat → Nat → Rat} {i j : Nat} (hj : j < k) : mulF k g unitF i j = g i j := by
  unfold mulF dotF unitF
  have : ∀ t, g i t * (if t = j then (1 : Rat) else 0) = if t = j then g i t else 0 := fun t => by
    by_cases h : t = j
    · rw [if_pos h, if_pos h, Rat.mul_one]
    · rw [if_neg h, if_neg h, Rat.mul_zero]
  simp only [this]
  rw [sum_one, if_pos hj]
def powF (k : Nat) (f : Nat → Nat → Rat) : Nat → Nat → Nat → Rat
  | 0 => unitF
  | n + 1 => mulF k (powF k f n) f
theorem mulF_congr {k n m : Nat} {f g f' g' : Nat → Nat → Rat} (h : ∀ i t, i < n → t < k → f i t = f' i t) (h2 : ∀ t j, t < k → j < m → g t j = g' t j) : ∀ i j, i < n → j < m → mulF k f g i j = mulF k f' g' i j := fun i j hi hj =>
  dotF_congr (fun t ht => h i t hi ht) (fun t ht => h2 t j ht hj)
theorem powF_add {k : Nat} {f : Nat → Nat → Rat} (a : Nat) : ∀ b i j, i < k → j < k → mulF k (powF k f a) (powF k f b) i j = powF k f (a + b) i j
  | 0, i, j, _, hj => mulF_unit_r hj
  | b + 1, i, j, hi, hj => by
    show mulF k (powF k f a) (mulF k (powF k f b) f) i j = mulF k (powF k f (a + b)) f i j
    rw [← mulF_assoc]
    exact mulF_congr (n := k) (m := k) (fun i t hi ht => powF_add a b i t hi ht) (fun _ _ _ _ => rfl) i j hi hj
/-! bounds -/
theorem Gr.dot {n d e b c : Nat} {f g : Nat → Rat} (h0 : d ≠ 0) (h1 : e ≠ 0) (h : ∀ i, i < n → Gr d b (f i)) (h2 : ∀ i, i < n → Gr e c (g i)) : Gr (d * e) (n * (b * c)) (dotF n f g) := by
  have := Gr.sum (Nat.mul_ne_zero h0 h1) ((List.range n).map fun t => f t * g t) (b := b * c) (fun q hq => by
    obtain ⟨t, ht, e⟩ := List.mem_map.mp hq
    subst e
    exact (h t (List.mem_range.mp ht)).mul (h2 t (List.mem_range.mp ht)))
  simpa [dotF] using this
theorem Gr.unit {d b i j : Nat} (h : d ≠ 0) (hb : d ≤ b) : Gr d b (unitF i j) := by
  unfold unitF
  by_cases e : i = j
  · rw [if_pos e]
    exact ⟨h, d, by omega, by rw [Rat.divInt_self' (by omega : (d : Int) ≠ 0)]⟩
  · rw [if_neg e]; exact Gr.zero h
theorem Gr.pow {k d b : Nat} {f : Nat → Nat → Rat} (h0 : d ≠ 0) (h : ∀ i j, i < k → j < k → Gr d b (f i j)) : ∀ n i j, i < k → j < k → Gr (d ^ n) ((k * b) ^ n) (powF k f n i j)
  | 0, i, j, _, _ => by rw [Nat.pow_zero, Nat.pow_zero]; exact Gr.unit (by decide) (by decide)
  | n + 1, i, j, hi, hj => by
    have := Gr.dot (n := k) (f := powF k f n i) (g := fun t => f t j) (Nat.pos_iff_ne_zero.mp (Nat.pow_pos (Nat.pos_of_ne_zero h0) (n := n))) h0 (fun t ht => Gr.pow h0 h n i t hi ht) (fun t ht => h t j ht hj)
    rw [Nat.pow_succ, Nat.pow_succ]
    rw [show (k * b) ^ n * (k * b) = k * ((k * b) ^ n * b) by rw [Nat.mul_left_comm]]
    exact this
end Ab
set_option Elab.async false
set_option linter.all false
set_option maxRecDepth 100000
set_option autoImplicit false
/-! More for the stepping. -/
namespace Ab
open PySem PySem.Spec PyProof.Rows
theorem forL_ix {g : AG} {tb : AT} {E : AK} {I : Nat → AS → Prop} : ∀ (l : List D) (k : Nat), (∀ (j : Nat) d, l[j]? = some d → ∀ (K : AS → Prop), (∀ S, I (k + j + 1) S → K S) → ∀ S, I (k + j) S → g d S (fun S1 => tb { E with nx := K, ct := K, bk := E.nx } S1) E.xe) → (∀ S, I (k + l.length) S → E.nx S) → ∀ S, I k S → forL g tb E l S
  | [], k, _, h, S, hS => h S hS
  | d :: r, k, step, h, S, hS => step 0 d rfl _ (fun S' hS' => forL_ix (I := I) r (k + 1) (fun j e he K hK S hS => step (j + 1) e (by simpa using he) K (fun S hS => hK S (by rw [show k + 1 + j + 1 = k + (j + 1) + 1 by omega]; exact hS)) S (by rw [show k + (j + 1) = k + 1 + j by omega]; exact hS)) (fun S hS => h S (by rw [List.length_cons, show k + (r.length + 1) = k + 1 + r.length by omega]; exact hS)) S' hS') S hS
theorem compM_ok {α : Type} {tg : Tg} {te : AE} {vs : List Nat} {σ0 : List (Option D)} {Q : List D → Store → Prop} {st : Store} {h g : α → D} : ∀ (l : List α) (acc : List D),
    (∀ x ∈ l, ∃ σ1, Tg.put tg (h x) (wipeD σ0 vs) = some σ1 ∧ ∀ (A : D → Store → Prop), A (g x) st → te ⟨σ1, st⟩ (fun y S3 => A y S3.st) noX) →
    acc.length + l.length ≤ sizeLine → Q (acc ++ l.map g) st → compL tg aYes te vs σ0 Q (l.map h) acc st
  | [], acc, _, _, q => by simpa [compL] using q
  | x :: r, acc, step, hl, q => by
    obtain ⟨σ1, h1, h2⟩ := step x (by simp)
    rw [List.length_cons] at hl
    refine ⟨σ1, h1, ?_⟩
    show (if true = true then te ⟨σ1, st⟩ (fun y S3 => acc.length < sizeLine ∧ compL tg aYes te vs σ0 Q (r.map h) (acc ++ [y]) S3.st) noX else compL tg aYes te vs σ0 Q (r.map h) acc st)
    rw [if_pos rfl]
    refine h2 (fun y st' => acc.length < sizeLine ∧ compL tg aYes te vs σ0 Q (r.map h) (acc ++ [y]) st') ⟨by omega, ?_⟩
    exact compM_ok r (acc ++ [g x]) (fun e he => step e (by simp [he])) (by rw [List.length_append]; simp; omega) (by simpa using q)
theorem zipD_map {α : Type} {f g : α → D} (l : List α) : zipD (l.map f) (l.map g) = l.map fun x => .tup [f x, g x] := by
  unfold zipD
  induction l with
  | nil => rfl
  | cons x r ih => simp only [List.map_cons, List.zipWith_cons_cons, ih]
theorem sz_le {n : Nat} (h : n ≤ 100) : n ≤ sizeLine := Nat.le_trans h (by decide)
section
variable {st : Store} {Q : D → Store → Prop} {xs ys : List D} {n : Nat} {s : Src}
theorem tup_l : tupleA [.lst xs] st Q = Q (.tup xs) st := propext ⟨fun ⟨_, h, q⟩ => by cases h; exact q, fun q => ⟨_, rfl, q⟩⟩
theorem tup_t : tupleA [.tup xs] st Q = Q (.tup xs) st := propext ⟨fun ⟨_, h, q⟩ => by cases h; exact q, fun q => ⟨_, rfl, q⟩⟩
theorem tup_r : tupleA [.ref n] st Q = ∃ xs, st[n]? = some (.lst xs) ∧ Q (.tup xs) st := propext ⟨fun ⟨_, h, q⟩ => ⟨_, ref_seq.mp h, q⟩, fun ⟨_, h, q⟩ => ⟨_, ref_seq.mpr h, q⟩⟩
theorem zip_tt : srcZip (.tup xs) (.tup ys) = some (.fixed (zipD xs ys)) := rfl
theorem zip_ll : srcZip (.lst xs) (.lst ys) = some (.fixed (zipD xs ys)) := rfl
theorem ex2t {α : Type} {a b : D} {P : D → D → α → Prop} : (∃ x y s, [a, b] = [x, y] ∧ P x y s) = ∃ s, P a b s := propext ⟨fun ⟨_, _, s, e, h⟩ => by cases e; exact ⟨s, h⟩, fun ⟨s, h⟩ => ⟨_, _, s, rfl, h⟩⟩
end
end Ab
set_option Elab.async false
set_option linter.all false
set_option maxRecDepth 100000
set_option autoImplicit false
/-! Comprehensions that change the store; lists that are being changed; equal values. -/
namespace Ab
open PySem PySem.Spec PyProof.Rows
/-- a comprehension whose items may change the store -/
theorem compI_ok {tg : Tg} {te : AE} {vs : List Nat} {σ0 : List (Option D)} {Q : List D → Store → Prop} {I : List D → Store → Prop} : ∀ (l acc : List D) (st : Store),
    (∀ (j : Nat) d, l[j]? = some d → ∀ acc' st, acc'.length = acc.length + j → I acc' st → ∃ σ1, Tg.put tg d (wipeD σ0 vs) = some σ1 ∧ ∀ A : D → Store → Prop, (∀ y st', I (acc' ++ [y]) st' → A y st') → te ⟨σ1, st⟩ (fun y S3 => A y S3.st) noX) →
    acc.length + l.length ≤ sizeLine → (∀ acc' st', acc'.length = acc.length + l.length → I acc' st' → Q acc' st') → I acc st → compL tg aYes te vs σ0 Q l acc st
  | [], acc, st, _, _, h, i => h acc st (by simp) i
  | d :: r, acc, st, step, hl, h, i => by
    obtain ⟨σ1, h1, h2⟩ := step 0 d rfl acc st rfl i
    rw [List.length_cons] at hl
    refine ⟨σ1, h1, ?_⟩
    show (if true = true then te ⟨σ1, st⟩ (fun y S3 => acc.length < sizeLine ∧ compL tg aYes te vs σ0 Q r (acc ++ [y]) S3.st) noX else compL tg aYes te vs σ0 Q r acc st)
    rw [if_pos rfl]
    refine h2 (fun y st' => acc.length < sizeLine ∧ compL tg aYes te vs σ0 Q r (acc ++ [y]) st') fun y st' i' => ⟨by omega, ?_⟩
    refine compI_ok r (acc ++ [y]) st' (fun j e he acc' st'' hl' i'' => step (j + 1) e (by simpa using he) acc' st'' (by rw [hl', List.length_append]; simp; omega) i'') (by rw [List.length_append]; simp; omega) (fun acc' st'' hl' => h acc' st'' (by rw [hl', List.length_append]; simp; omega)) i'
/-- .. over a live list -/
theorem compW_ok {n : Nat} {l : List D} {tg : Tg} {te : AE} {vs : List Nat} {σ0 : List (Option D)} {Q : List D → Store → Prop} {I : List D → Store → Prop} (live : ∀ acc st, I acc st → st[n]? = some (.lst l)) : ∀ (r acc : List D) (st : Store),
    (∀ (j : Nat) d, r[j]? = some d → ∀ acc' st, acc'.length = acc.length + j → I acc' st → ∃ σ1, Tg.put tg d (wipeD σ0 vs) = some σ1 ∧ ∀ A : D → Store → Prop, (∀ y st', I (acc' ++ [y]) st' → A y st') → te ⟨σ1, st⟩ (fun y S3 => A y S3.st) noX) →
    acc.length + r.length ≤ sizeLine → (∀ acc' st', acc'.length = acc.length + r.length → I acc' st' → Q acc' st') → I acc st → compV n l tg aYes te vs σ0 Q r acc st
  | [], acc, st, _, _, h, i => ⟨live _ _ i, h acc st (by simp) i⟩
  | d :: r, acc, st, step, hl, h, i => by
    obtain ⟨σ1, h1, h2⟩ := step 0 d rfl acc st rfl i
    rw [List.length_cons] at hl
    refine ⟨live _ _ i, σ1, h1, ?_⟩
    show (if true = true then te ⟨σ1, st⟩ (fun y S3 => acc.length < sizeLine ∧ compV n l tg aYes te vs σ0 Q r (acc ++ [y]) S3.st) noX else compV n l tg aYes te vs σ0 Q r acc st)
    rw [if_pos rfl]
    refine h2 (fun y st' => acc.length < sizeLine ∧ compV n l tg aYes te vs σ0 Q r (acc ++ [y]) st') fun y st' i' => ⟨by omega, ?_⟩
    refine compW_ok live r (acc ++ [y]) st' (fun j e he acc' st'' hl' i'' => step (j + 1) e (by simpa using he) acc' st'' (by rw [hl', List.length_append]; simp; omega) i'') (by rw [List.length_append]; simp; omega) (fun acc' st'' hl' => h acc' st'' (by rw [hl', List.length_append]; simp; omega)) i'
theorem pickL {α : Type} {h : α → D} {P : α → Prop} : ∀ {acc : List D}, (∀ y ∈ acc, ∃ a, y = h a ∧ P a) → ∃ as : List α, acc = as.map h ∧ ∀ a ∈ as, P a
  | [], _ => ⟨[], rfl, fun a z => by simp at z⟩
  | y :: r, q => by
    obtain ⟨a, e, p⟩ := q y (by simp)
    obtain ⟨as, e2, p2⟩ := pickL (acc := r) fun z hz => q z (by simp [hz])
    refine ⟨a :: as, by rw [e, e2]; rfl, fun b hb => ?_⟩
    rcases List.mem_cons.mp hb with hb | hb
    · rw [hb]; exact p
    · exact p2 b hb
theorem map_range {α : Type} (as : List α) (d : α) : as = (List.range as.length).map fun i => as.getD i d := by
  apply List.ext_getElem
  · simp
  · intro i h1 h2
    simp [h1]
theorem pickF {α : Type} (d0 : α) {h : α → D} {P : α → Prop} {acc : List D} {n : Nat} (hn : acc.length = n) (q : ∀ y ∈ acc, ∃ a, y = h a ∧ P a) : ∃ f : Nat → α, acc = (List.range n).map (fun i => h (f i)) ∧ ∀ i, i < n → P (f i) := by
  obtain ⟨as, e, p⟩ := pickL q
  have hl : as.length = n := by rw [← hn, e]; simp
  refine ⟨fun i => as.getD i d0, ?_, fun i hi => ?_⟩
  · rw [e, ← hl]
    conv => lhs; rw [map_range as d0]
    simp
  · have : i < as.length := by omega
    simp only [List.getD_eq_getElem?_getD, List.getElem?_eq_getElem this, Option.getD_some]
    exact p _ (List.getElem_mem _)
section
variable {st : Store} {Q : D → Store → Prop} {xs ys : List D} {n : Nat} {s : Src} {b neg : Bool} {ns : List Int} {k : Int}
theorem map_int_inj {a c : List Int} (h : a.map D.int = c.map D.int) : a = c := (List.map_inj_right (fun p q e => by cases e; rfl)).mp h
theorem sum_ref : sumA [.ref n] st Q = ∃ ns : List Int, st[n]? = some (.lst (ns.map .int)) ∧ Q (.int ns.sum) st :=
  propext ⟨fun ⟨x, ns, h1, h2, h3⟩ => by cases h1; exact ⟨ns, ref_seq.mp h2, h3⟩, fun ⟨ns, h2, h3⟩ => ⟨_, ns, rfl, ref_seq.mpr h2, h3⟩⟩
theorem mul_lst : mulA b (.lst xs) (.int k) st Q = (-(2 ^ 63) ≤ k ∧ k < 2 ^ 63 ∧ xs.length * k.toNat ≤ sizeLine ∧ newL b (List.replicate k.toNat xs).flatten st Q) :=
  propext ⟨fun ⟨_, h, h1⟩ => by cases h; exact h1, fun h => ⟨_, rfl, h⟩⟩
theorem pop_ref {i : Int} : popA (.ref n) [.int i] st Q = ∃ xs k y, st[n]? = some (.lst xs) ∧ -(2 ^ 63) ≤ i ∧ i < 2 ^ 63 ∧ seqIndex? i xs.length = some k ∧ xs[k]? = some y ∧ Q y (st.set n (.lst (xs.eraseIdx k))) := rfl
theorem enum_ref : srcEnum st (.ref n) = some s ↔ ∃ xs, st[n]? = some (.lst xs) ∧ s = .live n xs (enumD xs) := by
  show (match st[n]? with | some (.lst xs) => some (.live n xs (enumD xs)) | _ => none) = some s ↔ _
  cases h : st[n]? with
  | none => simp
  | some o => cases o <;> simp [eq_comm]
theorem src_ref : srcOf st (.ref n) = some s ↔ ∃ xs, st[n]? = some (.lst xs) ∧ s = .live n xs xs := by
  show (match st[n]? with | some (.lst xs) => some (.live n xs xs) | _ => none) = some s ↔ _
  cases h : st[n]? with
  | none => simp
  | some o => cases o <;> simp [eq_comm]
theorem seq_ix {i len : Nat} (h : i < len) : seqIndex? (i : Int) len = some i := by
  unfold seqIndex?
  have h1 : ¬ ((i : Int) < 0) := by omega
  simp only [if_neg h1]
  rw [if_pos (by simp [h])]
  simp
end
/-! ### equal values -/
mutual
def flatB : Nat → D → Bool
  | 0, _ => false
  | k + 1, d => match d with
    | .non => true
    | .bl _ => true
    | .int _ => true
    | .str s => PyData.strOk s
    | .tup xs => flatBs k xs
    | .lst xs => flatBs k xs
    | _ => false
def flatBs : Nat → List D → Bool
  | _, [] => true
  | k, x :: r => flatB k x && flatBs k r
end
mutual
theorem flat_py : ∀ {k : Nat} {d : D}, flatB k d = true → ∃ p, toPy d = some p ∧ p.canLay0 = true ∧ p.depth ≤ k
  | 0, _, h => by simp [flatB] at h
  | k + 1, d, h => by
    unfold flatB at h
    cases d with
    | non => exact ⟨_, rfl, rfl, by simp [PyData.depth]⟩
    | bl b => exact ⟨_, rfl, rfl, by simp [PyData.depth]⟩
    | int i => exact ⟨_, rfl, rfl, by simp [PyData.depth]⟩
    | str s => exact ⟨_, rfl, h, by simp [PyData.depth]⟩
    | tup xs =>
      obtain ⟨ps, h1, h2, h3⟩ := flats_py (xs := xs) h
      exact ⟨.tuple ps, by rw [toPy, h1]; rfl, by rw [PyData.canLay0]; exact h2, by rw [PyData.depth]; omega⟩
    | lst xs =>
      obtain ⟨ps, h1, h2, h3⟩ := flats_py (xs := xs) h
      exact ⟨.list ps, by rw [toPy, h1]; rfl, by rw [PyData.canLay0]; exact h2, by rw [PyData.depth]; omega⟩
    | _ => simp at h
theorem flats_py : ∀ {k : Nat} {xs : List D}, flatBs k xs = true → ∃ ps, toPys xs = some ps ∧ PyData.canLayAll0 ps = true ∧ PyData.depthAll ps ≤ k
  | k, [], _ => ⟨[], rfl, rfl, by simp [PyData.depthAll]⟩
  | k, x :: r, h => by
    simp only [flatBs, Bool.and_eq_true] at h
    obtain ⟨p, a1, a2, a3⟩ := flat_py h.1
    obtain ⟨ps, b1, b2, b3⟩ := flats_py h.2
    exact ⟨p :: ps, by rw [toPys, a1, b1]; rfl, by rw [PyData.canLayAll0, a2, b2]; rfl, by rw [PyData.depthAll]; exact Nat.max_le.mpr ⟨a3, b3⟩⟩
end
theorem look_flat {st : Store} {k : Nat} {d : D} (h : flatB k d = true) : look st d = d := by
  cases d with
  | ref n => cases k <;> simp [flatB] at h
  | _ => rfl
theorem eqA_same {k : Nat} {d : D} {neg : Bool} {st : Store} {Q : D → Store → Prop} (hk : k ≤ 64) (h : flatB k d = true) (q : Q (.bl (!neg)) st) : eqA neg d d st Q := by
  obtain ⟨p, a1, a2, a3⟩ := flat_py h
  have sh : SeqAt.shaped p = true := by unfold SeqAt.shaped; rw [a2]; simp; omega
  refine ⟨p, p, by rw [look_flat h]; exact a1, by rw [look_flat h]; exact a1, sh, sh, ?_⟩
  rw [show PyData.eqv p p = true from SeqAt.eqv_refl p a2]
  simpa using q
theorem toPys_ints : ∀ ns : List Int, toPys (ns.map D.int) = some (ns.map PyData.int)
  | [] => rfl
  | n :: r => by rw [List.map_cons, toPys, toPys_ints r]; rfl
theorem canLay_ints : ∀ ns : List Int, PyData.canLayAll0 (ns.map PyData.int) = true
  | [] => rfl
  | n :: r => by rw [List.map_cons, PyData.canLayAll0, canLay_ints r]; rfl
theorem depth_ints : ∀ ns : List Int, PyData.depthAll (ns.map PyData.int) = 0
  | [] => rfl
  | n :: r => by rw [List.map_cons, PyData.depthAll, depth_ints r]; rfl
theorem eqA_ref_nil {n : Nat} {neg : Bool} {st : Store} {Q : D → Store → Prop} {ns : List Int} (h : st[n]? = some (.lst (ns.map .int))) (q : Q (.bl (decide (ns = []) != neg)) st) : eqA neg (.ref n) (.lst []) st Q := by
  refine ⟨.list (ns.map .int), .list [], ?_, rfl, ?_, by decide +kernel, ?_⟩
  · unfold look
    simp only [h]
    rw [toPy, toPys_ints]; rfl
  · unfold SeqAt.shaped
    rw [PyData.canLay0, canLay_ints, PyData.depth, depth_ints]
    rfl
  · have : PyData.eqv (.list (ns.map .int)) (.list []) = decide (ns = []) := by
      cases ns with
      | nil => rfl
      | cons x r => simp [PyData.eqv, PyData.eqvAll]
    rw [this]; exact q
end Ab
set_option Elab.async false
set_option linter.all false
set_option maxRecDepth 100000
set_option autoImplicit false
/-! Names that take a list apart. -/
namespace Ab
open PySem PySem.Spec PyProof.Rows L2
/-- (a, b, ..) = a list of that length -/
def gUnl (n : Nat) (gs : AGs) : AG := fun d S Q X => ∃ xs, lsqOf S.st d = some xs ∧ xs.length = n ∧ gs xs S Q X
theorem jg_unl {X : Cx} {W : WX} {es : List Expr} {gs : AGs} {pos : Pos} {k n : Nat} (hc : X.calm = true) (h : JGs X W es gs) (hn : (assignEach es X.env).length = n := by rfl) (hst : (assignEach es X.env).findIdx? (·.1) = none := by rfl) : JG X W (.Tuple es k pos) (gUnl n gs) :=
  PG.imp (pg_unl hc h hn hst) fun v σ H Q ⟨αs, S, d, QA, XA, R, r, ⟨xs, h0, hl, h⟩, q, x⟩ => by
    obtain ⟨a, vs, e1, e2, e3⟩ := lsqOf_ok R.s r h0
    exact ⟨a, vs, e1, e2, by rw [e3.length]; exact hl, αs, S, xs, QA, XA, R, e3, h, q, x⟩
theorem lsq_lst {st : Store} {xs ys : List D} : lsqOf st (.lst xs) = some ys ↔ xs = ys := by simp [lsqOf, lstOf]
end Ab
set_option Elab.async false
set_option linter.all false
set_option maxRecDepth 100000
set_option autoImplicit false
set_option maxHeartbeats 4000000
/-! tuple * int, of any number of times. -/
namespace Ab
open PySem PySem.Spec PyProof.Rows L2
theorem tuple_mul1 (l : Addr) (items : Array Value) (n : Nat) (dd : Option Addr) (sl : Array (Option Value)) (x : Int) (u : Tok) (c0 : (decide (x < -(2 ^ 63)) || decide (x ≥ 2 ^ 63)) = false) (c1 : (items.isEmpty || x == 1) = true) :
    Meets (Builtin.«tuple.__mul__» ⟨[.ref l, .int x u], []⟩) (fun _ R s => s.heap.get? l = some { cls := .type "tuple", dict := dd, data := .seq items n, slots := sl } ∧ R (.ok (.ret (Value.ref l))) s) :=
  .of_wp fun prog w A R s h => by
    obtain ⟨hp, g, d, tk, os⟩ := s
    obtain ⟨hl, h⟩ := h
    have f1 := AutoSeq1.idx_int
    wp_walk using wpAny_loadPart' hl
    repeat (first
      | (refine wpAny_ite_false (decide_eq_false (by rw [c0]; exact Bool.false_ne_true)) ?_; wp_walk using wpAny_loadPart' hl)
      | (refine wpAny_ite_true (decide_eq_true c1) ?_; wp_walk using wpAny_loadPart' hl))
    exact ⟨_, rfl, h⟩
theorem tuple_mul0 (l : Addr) (items : Array Value) (n : Nat) (dd : Option Addr) (sl : Array (Option Value)) (x : Int) (u : Tok) (c0 : (decide (x < -(2 ^ 63)) || decide (x ≥ 2 ^ 63)) = false) (c1 : (items.isEmpty || x == 1) = false) (c2 : (decide (x ≤ 0) || items.isEmpty) = true) :
    Meets (Builtin.«tuple.__mul__» ⟨[.ref l, .int x u], []⟩) (fun _ R s => s.heap.get? l = some { cls := .type "tuple", dict := dd, data := .seq items n, slots := sl } ∧
      R (.ok (.ret (Value.ref s.heap.objs.size))) { s with heap := s.heap.push { cls := Value.type "tuple", data := Data.seq #[] }, toks := s.toks }) :=
  .of_wp fun prog w A R s h => by
    obtain ⟨hp, g, d, tk, os⟩ := s
    obtain ⟨hl, h⟩ := h
    have f1 := AutoSeq1.idx_int
    wp_walk using wpAny_loadPart' hl
    repeat (first
      | (refine wpAny_ite_false (decide_eq_false (by rw [c0]; exact Bool.false_ne_true)) ?_; wp_walk using wpAny_loadPart' hl)
      | (refine wpAny_ite_false (decide_eq_false (by rw [c1]; exact Bool.false_ne_true)) ?_; wp_walk using wpAny_loadPart' hl)
      | (refine wpAny_ite_true (decide_eq_true c2) ?_; wp_walk using wpAny_loadPart' hl))
    exact ⟨_, rfl, h⟩
def rRepT1 (K : PySem.W.Frag) : R2 := fun x y H Q => ∃ l xs, x = .ref l ∧ y = .int 1 ∧ SqT K H l xs ∧ Q (.ref l) H
def rRepT0 (K : PySem.W.Frag) : R2 := fun x y H Q => ∃ l k xs, x = .ref l ∧ y = .int k ∧ SqT K H l xs ∧ xs ≠ [] ∧ -(2 ^ 62) ≤ k ∧ k ≤ 0 ∧ ∀ p, H p = none → Q (.ref p) (upd H p (.tup []))
section
variable {X : Cx}
theorem op_repT1 : OpR X (binaryOp .Mult) (rRepT1 X.K) := by
  intro pins s σ H x y v u Q I rx ry h
  obtain ⟨l, xs, rfl, rfl, hT, q⟩ := h
  cases rx
  obtain ⟨t, rfl⟩ := ry
  obtain ⟨its, r, ⟨⟨cls, dd, data, sl⟩, ho, hc, n, hd⟩, hs⟩ := I.tuple hT
  simp only at hc hd
  subst hc hd
  have c1 : (its.toArray.isEmpty || (1 : Int) == 1) = true := by simp
  refine wpAny_binaryOp_repeat_ref (T := "tuple") (U := "int") (by decide) ⟨_, ho, rfl⟩ (fun s' => typeIs_int s' 1 t) noFill_tuple_mul F.fills_int_mul F.slot_int_rmul repeat_tuple F.slot_int_index.lookup
    (call_meets F.slot_int_rmul (typeIs_int s 1 t) F.entry_int_rmul (F.args_int_rmul_2 _ _) (int_rmul_tuple 1 t l its.toArray n dd sl)
      ⟨ho, rfl, ⟨_, ho, rfl⟩, call_meets F.slot_tuple_mul ⟨_, ho, rfl⟩ F.entry_tuple_mul (F.args_tuple_mul_2 _ _) (tuple_mul1 l its.toArray n dd sl 1 t (by decide) c1) ⟨ho, ?_⟩⟩)
  exact ⟨.ref l, H, I, rfl, q⟩
theorem op_repT0 : OpR X (binaryOp .Mult) (rRepT0 X.K) := by
  intro pins s σ H x y v u Q I rx ry h
  obtain ⟨l, k, xs, rfl, rfl, hT, hne, h1, h2, q⟩ := h
  cases rx
  obtain ⟨t, rfl⟩ := ry
  obtain ⟨its, r, ⟨⟨cls, dd, data, sl⟩, ho, hc, n, hd⟩, hs⟩ := I.tuple hT
  simp only at hc hd
  subst hc hd
  have hle : its.length = xs.length := r.length.symm
  have hn : its ≠ [] := fun e => hne (by
    rw [e] at hle
    exact List.eq_nil_of_length_eq_zero hle.symm)
  have hi : its.toArray.isEmpty = false := by
    cases its with
    | nil => exact absurd rfl hn
    | cons a b => rfl
  have c0 : (decide (k < -(2 ^ 63)) || decide (k ≥ 2 ^ 63)) = false := by
    rw [decide_eq_false (by omega), decide_eq_false (by omega)] <;> rfl
  have c1 : (its.toArray.isEmpty || k == 1) = false := by
    rw [hi, Bool.false_or]
    exact beq_eq_false_iff_ne.mpr (by omega)
  have c2 : (decide (k ≤ 0) || its.toArray.isEmpty) = true := by
    rw [decide_eq_true h2]; rfl
  refine wpAny_binaryOp_repeat_ref (T := "tuple") (U := "int") (by decide) ⟨_, ho, rfl⟩ (fun s' => typeIs_int s' k t) noFill_tuple_mul F.fills_int_mul F.slot_int_rmul repeat_tuple F.slot_int_index.lookup
    (call_meets F.slot_int_rmul (typeIs_int s k t) F.entry_int_rmul (F.args_int_rmul_2 _ _) (int_rmul_tuple k t l its.toArray n dd sl)
      ⟨ho, rfl, ⟨_, ho, rfl⟩, call_meets F.slot_tuple_mul ⟨_, ho, rfl⟩ F.entry_tuple_mul (F.args_tuple_mul_2 _ _) (tuple_mul0 l its.toArray n dd sl k t c0 c1 c2) ⟨ho, ?_⟩⟩)
  refine ⟨.ref s.heap.objs.size, _, I.laid (t' := s.toks) (o := .tup []) (fun b ob q => Heap.get?_push_of_some _ q) (Nat.le_refl _) ?_, rfl, q _ (I.hok.fresh (Nat.le_refl _))⟩
  exact ⟨Nat.zero_le _, [], .nil, IsTup.new _ _⟩
end
/-- [..] * n, (..) * n, ints -/
def mulX (b : Bool) : A2 := fun x y st Q => match x with
  | .tup xs => (match y with
    | .int k => xs ≠ [] ∧ -(2 ^ 62) ≤ k ∧ k ≤ 1000 ∧ xs.length ≤ 1000 ∧ Q (.tup (List.replicate k.toNat xs).flatten) st
    | _ => False)
  | x => mulA b x y st Q
def rMulX (K : PySem.W.Frag) : R2 := fun x y H Q => rMulZ x y H Q ∨ rRepT K x y H Q ∨ rRepT1 K x y H Q ∨ rRepT0 K x y H Q
theorem op_mulX {X : Cx} : OpR X (binaryOp .Mult) (rMulX X.K) := op_mulZ.or (op_repT.or (op_repT1.or op_repT0))
theorem rs_mulX {K : PySem.W.Frag} (b : Bool) : RS2 K (rMulX K) (mulX b) := fun αs st H x y dx dy Q QA s rx ry h z => by
  by_cases hd : ∃ xs, dx = .tup xs
  · obtain ⟨xs, e⟩ := hd
    subst e
    cases dy <;> simp only [mulX] at h
    rename_i k
    obtain ⟨h1, h2, h3, h4, h5⟩ := h
    cases ry
    cases rx with
    | @tup a vs _ e1 r1 =>
      have hne : vs ≠ [] := fun e => h1 (by
        have := r1.length
        rw [e] at this
        exact List.eq_nil_of_length_eq_zero this.symm)
      by_cases k1 : k = 1
      · subst k1
        refine .inr (.inr (.inl ⟨a, vs, rfl, rfl, e1, ?_⟩))
        refine z.here s (.tup e1 r1) ?_
        simpa using h5
      · by_cases k0 : k ≤ 0
        · refine .inr (.inr (.inr ⟨a, k, vs, rfl, rfl, e1, hne, h2, k0, fun p hp => ?_⟩))
          refine newT_ok s hp .nil ?_ z
          rw [show k.toNat = 0 by omega] at h5
          simpa using h5
        · exact .inr (.inl ⟨a, k, vs, rfl, rfl, e1, hne, by omega, h3, by rw [r1.length]; exact h4, fun p hp => newT_ok s hp (r1.rep _) h5 z⟩)
  · refine .inl (rs_mul b αs st H x y dx dy Q QA s rx ry ?_ z)
    cases dx with
    | tup xs => exact absurd ⟨xs, rfl⟩ hd
    | _ => exact h
section
variable {st : Store} {Q : D → Store → Prop} {b : Bool} {k i j : Int} {xs : List D}
theorem mulX_tup : mulX b (.tup xs) (.int k) st Q = (xs ≠ [] ∧ -(2 ^ 62) ≤ k ∧ k ≤ 1000 ∧ xs.length ≤ 1000 ∧ Q (.tup (List.replicate k.toNat xs).flatten) st) := rfl
end
end Ab
set_option Elab.async false
set_option linter.all false
set_option maxRecDepth 100000
set_option autoImplicit false
/-! A value's truth. -/
namespace Ab
open PySem PySem.Spec PyProof.Rows L2
def truD (st : Store) : D → Option Bool
  | .non => some false
  | .bl b => some b
  | .int i => some (i != 0)
  | .tup xs => some (!xs.isEmpty)
  | d => (lsqOf st d).map fun xs => !xs.isEmpty
def aTru (t : AE) : AB := fun S Q X => t S (fun d S1 => ∃ b, truD S1.st d = some b ∧ Q b S1) X
theorem RpAll.isEmpty {K : PySem.W.Frag} {αs : Al} {L : Addr → Prop} {H : Hp} {vs : List V} {ds : List D} (r : RpAll K αs L H vs ds) : vs.isEmpty = ds.isEmpty := by
  cases r <;> rfl
theorem truD_ok {K : PySem.W.Frag} {αs : Al} {st : Store} {H : Hp} {v : V} {d : D} {b : Bool} (s : SRel K αs st H) (r : Rp K αs (Lv αs st) H v d) (h : truD st d = some b) : TruV K v H b := by
  have lists : (lsqOf st d).map (fun xs => !xs.isEmpty) = some b → TruV K v H b := fun h => by
    obtain ⟨xs, h1, h2⟩ := Option.map_eq_some_iff.mp h
    obtain ⟨a, vs, e1, e2, e3⟩ := lsqOf_ok s r h1
    subst e1
    exact .inl ⟨vs, e2, by rw [e3.isEmpty]; exact h2.symm⟩
  cases d with
  | non => cases r; exact (Option.some.inj h).symm
  | bl c => cases r; exact (Option.some.inj h).symm
  | int i => cases r; exact (Option.some.inj h).symm
  | tup xs =>
    cases r with
    | @tup a vs _ e1 r1 => exact .inr (.inl ⟨vs, e1, by rw [r1.isEmpty]; exact (Option.some.inj h).symm⟩)
  | _ => exact lists h
theorem jt_tru {X : Cx} {W : WX} {e : Expr} {ta : AE} (h : JE X W e ta) (he : ∀ whole, isTrue e X.env whole = (do let v ← whole; standAt e.pos; holding [v] (truthy v)) := by intro _; rfl) : JB X W e (aTru ta) :=
  PT.imp (pt_truth h he) fun σ H Q ⟨αs, S, QA, XA, R, h, q, x⟩ => by
    refine ⟨αs, S, _, XA, R, h, fun αs1 v H1 d S1 R1 e1 rv ⟨b, hd, h1⟩ => ?_, x⟩
    exact ⟨b, truD_ok R1.s rv hd, q αs1 b H1 S1 R1 e1 h1⟩
end Ab
set_option Elab.async false
set_option linter.all false
set_option maxRecDepth 100000
set_option autoImplicit false
/-! enumerate(tuple). -/
namespace PySem
open Sem (wp)
open AutoSeq1 (wpAny_loadPart')
theorem meets_enumerate_newT (l : Addr) (items : Array Value) (n : Nat) (dct : Option Addr) (sl : Array (Option Value)) :
    Meets (Builtin.«enumerate.__new__» ⟨[.type "enumerate", .ref l], []⟩) (fun _ R s => s.heap.get? l = some { cls := .type "tuple", dict := dct, data := .seq items n, slots := sl } ∧
      R (.ok (.ret (.ref (s.heap.push { cls := .type "tuple_iterator", data := .fields #[.ref l, .int 0 0] }).objs.size)))
        { s with heap := (s.heap.push { cls := .type "tuple_iterator", data := .fields #[.ref l, .int 0 0] }).push { cls := .type "enumerate", data := .fields #[.none, .bool false, .ref s.heap.objs.size, rawInt 0, .none, .none] } }) :=
  .of_wp fun prog w A R s h => by
    obtain ⟨hp, g, d, tk, os⟩ := s; obtain ⟨hl, h⟩ := h
    have hsub := sub_enumerate
    have hL : Heap.IsTuple (Shared.heap ⟨hp, g, d, tk, os⟩) l items := ⟨_, hl, rfl, n, rfl⟩
    wp_walk using wpAny_loadPart' hl
    refine wpAny_stack_any fun st => wpAny_pure ?_
    split
    · rename_i c _ _ _ _ _
      cases (c == Value.type "enumerate")
      · wp_walk using wpAny_loadPart' hl, wpAny_pyIter_tuple hL
        exact ⟨_, rfl, h⟩
      · wp_walk using wpAny_loadPart' hl, wpAny_pyIter_tuple hL
        exact ⟨_, rfl, h⟩
    · wp_walk using wpAny_loadPart' hl, wpAny_pyIter_tuple hL
      exact ⟨_, rfl, h⟩
section
variable {prog : Program} {w : World} {A : Around} {E : Value → Shared → Prop} {s : Shared}
theorem call_enumerate_tuple {l : Addr} {items : Array Value} {Q : Value → Shared → Prop} (hL : s.heap.IsTuple l items)
    (h : ∀ h', IsEnum h' (s.heap.objs.size + 1) s.heap.objs.size 0 .none → h'.IsTupleIter s.heap.objs.size l 0 → h'.objs.size = s.heap.objs.size + 2 →
      (∀ b o, s.heap.get? b = some o → h'.get? b = some o) → Q (.ref (s.heap.objs.size + 1)) { s with heap := h' }) :
    wpAny (model prog w) A (call (.type "enumerate") [.ref l]) Q E s := by
  obtain ⟨⟨c, dct, dt, sl⟩, hl, hc, n, hd⟩ := hL
  replace hc : c = .type "tuple" := hc
  replace hd : dt = .seq items n := hd
  subst hc hd
  refine callType_new F.called_enumerate (by decide) (F.typeCall_enumerate_1 _) (F.newCall_enumerate_1 _) (fun obj => F.args_object_init_2 obj _) F.entry_enumerate_new
    (meets_enumerate_newT l items n dct sl) ⟨hl, ?_⟩
  have hz : (s.heap.push { cls := .type "tuple_iterator", data := .fields #[.ref l, .int 0 0] }).objs.size = s.heap.objs.size + 1 := Heap.size_push ..
  show _ ∧ _
  rw [hz]
  have he : IsEnum ((s.heap.push { cls := .type "tuple_iterator", data := .fields #[.ref l, .int 0 0] }).push
      { cls := .type "enumerate", data := .fields #[.none, .bool false, .ref s.heap.objs.size, rawInt 0, .none, .none] }) (s.heap.objs.size + 1) s.heap.objs.size 0 .none := by
    have := Heap.get?_push_size (s.heap.push { cls := .type "tuple_iterator", data := .fields #[.ref l, .int 0 0] })
      (o := { cls := .type "enumerate", data := .fields #[.none, .bool false, .ref s.heap.objs.size, rawInt 0, .none, .none] }) rfl
    rw [hz] at this; exact this
  refine ⟨⟨_, he, rfl⟩, h _ he ⟨_, Heap.get?_push_of_some _ (Heap.get?_push_size _ rfl), rfl, rfl⟩ (by rw [Heap.size_push, hz]) fun b o x => Heap.get?_push_of_some _ (Heap.get?_push_of_some _ x)⟩
theorem enum_endT {e it l : Addr} {i : Nat} {items : Array Value} {old : Value} {Q : Option Value → Shared → Prop} (hh : A.handled = none)
    (he : IsEnum s.heap e it i old) (hit : s.heap.IsTupleIter it l i) (hl : s.heap.IsTuple l items) (hx : items[i]? = none)
    (hQ : ∀ h', Heap.ExtBut it s.heap h' → Q none { s with heap := h' }) : wpAny (model prog w) A (pyNext (.ref e)) Q E s := by
  have hT : s.TypeIs (.ref e) "enumerate" := ⟨_, he, rfl⟩
  unfold pyNext
  refine wpAny_bind (wpAny_attempt (wpAny_callSpecial?_slot (name := Str.ofString "__next__") hT F.slot_enumerate_next
    (wpAny_call_entry F.slot_enumerate_next hT F.entry_enumerate_next ?_ (F.args_enumerate_next_1 _))))
  show wpAny _ _ (field (.ref e) 2 >>= _) _ _ _
  refine wpAny_bind (wpAny_field he rfl (x := .ref it) rfl ?_)
  refine wpAny_bind (wpAny_nextOf_tuple_end hh hit hl hx fun h' x he' hx' => ?_)
  obtain ⟨o, ho, hc⟩ := hx'
  refine wpAny_bind (wpAny_isInstance (T := "StopIteration") (b := true) ⟨o, ho, hc⟩ isSubtype_stop ?_)
  exact wpAny_pure (hQ _ he')
end
end PySem
namespace Ab
open PySem PySem.Spec PyProof.Rows L2
def IteT (K : PySem.W.Frag) (a : Addr) : It :=
  ⟨fun i H => ∃ (xs : List V) (x : V), SqT K H a xs ∧ xs[i]? = some x, fun i H v H' => ∃ T x, v = .ref T ∧ H T = none ∧ H' = upd H T (.tup [.int (i : Nat), x]) ∧ ∀ xs, SqT K H a xs → xs[i]? = some x, fun i H => ∃ xs : List V, SqT K H a xs ∧ xs.length ≤ i⟩
theorem turn_enumT {P : Program} {w : World} {K : PySem.W.Frag} {elts : List Expr} {kk : Nat} {tpos : Pos} (a e it : Addr) :
    Turn P w K (.Tuple elts kk tpos) (IteT K a) [e, it] e (fun i h => (∃ old, IsEnum h e it ((i : Nat) : Int) old) ∧ h.IsTupleIter it a i ∧ e ≠ it) where
  mem := by simp
  obj := fun i h st b hb => by
    obtain ⟨⟨old, he⟩, ⟨o, ho, hc, hd⟩, _⟩ := st
    have e' : b = e ∨ b = it := by simpa using hb
    rcases e' with z | z
    · rw [z]; exact ⟨_, he, fun v q => nomatch q⟩
    · rw [z]; exact ⟨o, ho, fun v q => by rw [hd] at q; cases q⟩
  keep := fun i h h' st k => let ⟨⟨old, he⟩, hi, hne⟩ := st; ⟨⟨old, k e (by simp) _ he⟩, hi.at fun o q => k it (by simp) o q, hne⟩
  item := by
    intro X hP hw hK hc i pins s σ H E I hf st hg
    subst hP hw hK
    obtain ⟨⟨old, he⟩, hit, hne⟩ := st
    obtain ⟨xs, x, hq, hx⟩ := hg
    obtain ⟨its, rv, p, hz⟩ := I.tuple hq
    obtain ⟨u, hu, ru⟩ := rv.get hx
    have hel : e < s.heap.objs.size := Heap.lt_size he
    have hil : it < s.heap.objs.size := by obtain ⟨_, q, _⟩ := hit; exact Heap.lt_size q
    have hai : a ≠ it := fun z => by
      obtain ⟨o1, q1, c1, _⟩ := hit
      obtain ⟨o2, q2, c2, _⟩ := p
      rw [z, q1] at q2
      cases q2
      exact absurd (Value.type.inj (c1.symm.trans c2)) (by decide)
    have hae : a ≠ e := fun z => by
      obtain ⟨o2, q2, c2, _⟩ := p
      rw [z] at q2
      have := he.symm.trans q2
      cases this
      exact absurd (Value.type.inj c2) (by decide)
    have D := Draws.tuple (prog := X.prog) (w := X.w) (A := X.A.in1) (I.ok.hd hc) it a hai its.toArray
    have hul : i < its.toArray.size := by
      have := (List.getElem?_eq_some_iff.mp hu).1
      simpa using this
    refine wpAny_pyNext_enum_itemD D he ⟨hit, p⟩ hul hne (fun z => ?_) fun x' h' tk hP ho hst' hT hsz hk => ?_
    · have z : e = it ∨ e = a := by simpa using z
      rcases z with z | z
      · exact hne z
      · exact hae z.symm
    have ex : x' = u := by
      have hP : its.toArray[i]? = some x' := hP
      have : its[i]? = some x' := by simpa using hP
      rw [hu] at this
      exact (Option.some.inj this).symm
    subst ex
    obtain ⟨hit', _⟩ := hst'
    refine ⟨_, rfl, wpAny_letOwnedTupleGo_enum (s := { s with heap := h', toks := tk + 1 }) ho fun h'' he' sb => ?_⟩
    have hT2 : h''.get? s.heap.objs.size = some { cls := .type "tuple", data := .seq #[.int i tk, x'] } := (sb.2 _ (Nat.ne_of_gt hel)).trans hT
    have new : ObjOk X.prog X.w (upd H s.heap.objs.size (.tup [.int (i : Nat), x])) h'' s.heap.objs.size (.tup [.int (i : Nat), x]) :=
      ⟨by show 2 ≤ sizeLine; decide, [.int i tk, x'], .cons ⟨_, rfl⟩ (.cons ru .nil), ⟨_, hT2, rfl, _, rfl⟩⟩
    have I1 : Inv X pins σ (upd H s.heap.objs.size (.tup [.int (i : Nat), x])) { s with heap := h'', toks := tk + 1 } :=
      I.turnedNew (ch := [e, it]) (fun b ob hb q => (sb.2 b (fun z => hb (by simp [z]))).trans (hk b ob (fun z => hb (by simp [z])) (fun z => hb (by simp [z])) q)) hf (Nat.le_refl _) new
    refine ⟨.ref s.heap.objs.size, _, I1, rfl, ⟨_, x, rfl, I.hok.fresh (Nat.le_refl _), rfl, fun ys hy => by rw [I.tuple_inj hy hq]; exact hx⟩, ⟨⟨x', ?_⟩, hit'.at fun o q => (sb.2 it (Ne.symm hne)).trans q, hne⟩, fun b hb => ?_⟩
    · have e1 : ((i + 1 : Nat) : Int) = (i : Int) + 1 := by omega
      rw [e1]; exact he'
    · have hb' : b < s.heap.objs.size := by
        have e' : b = e ∨ b = it := by simpa using hb
        rcases e' with z | z
        · rw [z]; exact hel
        · rw [z]; exact hil
      rw [upd_ne (Nat.ne_of_lt hb')]
      exact (hf b hb).1
  done := by
    intro X hP hw hK hc i pins s σ H E I hf st hg
    subst hP hw hK
    obtain ⟨⟨old, he⟩, hit, hne⟩ := st
    obtain ⟨xs, hq, hx⟩ := hg
    obtain ⟨its, rv, p, hz⟩ := I.tuple hq
    obtain ⟨f0, f1, f2, f3, f4, f5⟩ := hf it (by simp)
    have hl := rv.length
    exact enum_endT (I.ok.hd hc) he hit p (by simp; omega) fun h' eb => ⟨rfl, I.turned (t' := s.toks) (fun b o hb q => eb b o hb q) f0 f1 f3 f4 f5⟩
  self := fun A i s Q E st h => let ⟨⟨_, he⟩, _⟩ := st; wpAny_pyIter_enum he h
/-- enumerate(a list or a tuple) -/
def iEnumX (K : PySem.W.Frag) (ta : TA) : TI := fun σ H R => ta σ H fun vs H1 => ∃ a xs, vs = [.ref a] ∧ ((SqL K H1 a xs ∧ R (Ite K a) H1) ∨ (SqT K H1 a xs ∧ R (IteT K a) H1))
theorem pi_enumX {X : Cx} {e : Expr} {ta : TA} {p pos tpos : Pos} {elts : List Expr} {kk : Nat} (hg : Gl X "enumerate") (hm : X.mg "enumerate" = none) (ha : PA X [e] ta) (hs : starEach [e] X.env = [(false, eval e X.env)] := by rfl) :
    PI X (.Tuple elts kk tpos) (.Call (.Name "enumerate" p) [e] [] pos) (iEnumX X.K ta) := by
  refine ⟨fun pins s σ H R I h => ?_⟩
  refine Call_ (ld_blt I hg hm boot_enumerate (PyProof.Rows.callWith_type1 (thn (ha.run pos pins s σ H _ I h) fun us s1 ⟨vs, H1, I1, r1, q1⟩ => ?_) hs rfl))
  obtain ⟨a, xs, ex, q1⟩ := q1
  subst ex
  have two : ∀ b, b ∈ [s1.heap.objs.size + 1, s1.heap.objs.size] → s1.heap.objs.size ≤ b := fun b hb => by
    have e' : b = s1.heap.objs.size + 1 ∨ b = s1.heap.objs.size := by simpa using hb
    omega
  cases r1 with
  | cons r rr =>
    cases rr
    cases r
    rcases q1 with ⟨hq, q⟩ | ⟨hq, q⟩
    · obtain ⟨its, rv, p', hz⟩ := I1.list hq
      refine call_enumerate_list p'.isList fun h' he hit hsz hk => wpAny_pyIter_enum he ?_
      have I2 : Inv X pins σ H1 { s1 with heap := h' } := I1.kept (t' := s1.toks) hk
      refine ⟨s1.heap.objs.size + 1, [s1.heap.objs.size + 1, s1.heap.objs.size], _, _, H1, rfl, I2, turn_enum a (s1.heap.objs.size + 1) s1.heap.objs.size, ⟨⟨.none, he⟩, hit, Nat.succ_ne_self _⟩, fun b hb => ?_, q⟩
      exact I1.fpOk (two b hb) (I1.hok.fresh (two b hb))
    · obtain ⟨its, rv, p', hz⟩ := I1.tuple hq
      refine call_enumerate_tuple p' fun h' he hit hsz hk => wpAny_pyIter_enum he ?_
      have I2 : Inv X pins σ H1 { s1 with heap := h' } := I1.kept (t' := s1.toks) hk
      refine ⟨s1.heap.objs.size + 1, [s1.heap.objs.size + 1, s1.heap.objs.size], _, _, H1, rfl, I2, turn_enumT a (s1.heap.objs.size + 1) s1.heap.objs.size, ⟨⟨.none, he⟩, hit, Nat.succ_ne_self _⟩, fun b hb => ?_, q⟩
      exact I1.fpOk (two b hb) (I1.hok.fresh (two b hb))
def srcEnumX (st : Store) : D → Option Src
  | .tup xs => some (.fixed (enumD xs))
  | d => srcEnum st d
def aEnumX (ta : AA) : AI := fun S Q X => ta S (fun ds S1 => ∃ x s, ds = [x] ∧ srcEnumX S1.st x = some s ∧ Q s S1) X
theorem iteT_ok {K : PySem.W.Frag} {αs : Al} {st : Store} {H : Hp} {a : Addr} {xs : List D} (hx : ∀ αs' hs σ' H' S', (∀ a ∈ hs, H a = none) → Rel K (αs'.hides hs) σ' H' S' → Ext αs st H αs' S'.st H' → ∃ vs, SqT K H' a vs ∧ RpAll K (αs'.hides hs) (Lv (αs'.hides hs) S'.st) H' vs xs) : ItOk K αs st H (IteT K a) (.fixed (enumD xs)) where
  item := fun αs' hs σ' H' S' hh R' e' hst i d hd => by
    obtain ⟨vs, h1, h2⟩ := hx αs' hs σ' H' S' hh R' e'
    obtain ⟨x, g1, e⟩ := enumD_get hd
    subst e
    obtain ⟨v, f1, r1⟩ := h2.get g1
    refine ⟨⟨vs, v, h1, f1⟩, fun u H'' yl => ?_⟩
    obtain ⟨T, p, e1, hT, e2, k1⟩ := yl
    have z1 := (k1 vs h1).symm.trans f1
    cases z1
    subst e1 e2
    exact new2 R'.s hT (.int _) r1
  stop := fun αs' hs σ' H' S' hh R' e' hst => by
    obtain ⟨vs, h1, h2⟩ := hx αs' hs σ' H' S' hh R' e'
    refine ⟨vs, h1, ?_⟩
    show vs.length ≤ (enumD xs).length
    rw [enumD, List.length_zipWith, h2.length, List.length_range, Nat.min_self]
    exact Nat.le_refl _
theorem ji_enumX {X : Cx} {W : WX} {e : Expr} {ta : AA} {p pos tpos : Pos} {elts : List Expr} {kk : Nat} (hg : Gl X "enumerate") (hm : X.mg "enumerate" = none) (ha : JA X W [e] ta) (hs : starEach [e] X.env = [(false, eval e X.env)] := by rfl) :
    JI X W (.Tuple elts kk tpos) (.Call (.Name "enumerate" p) [e] [] pos) (aEnumX ta) := PI.imp (pi_enumX hg hm ha hs) fun σ H R ⟨αs, S, QA, XA, Re, h, q, xo⟩ => by
  refine ⟨αs, S, _, XA, Re, h, fun αs1 vs H1 ds S1 R1 e1 rv ⟨x, s, hd, hz, h1⟩ => ?_, xo⟩
  subst hd
  obtain ⟨v, ev, r1⟩ := rp1 rv
  subst ev
  by_cases ht : ∃ xs, x = .tup xs
  · obtain ⟨xs, e⟩ := ht
    subst e
    cases hz
    cases r1 with
    | @tup a vs _ t1 q1 =>
      exact ⟨a, vs, rfl, .inr ⟨t1, q αs1 _ H1 S1 _ R1 e1 (iteT_ok fun αs' hs σ' H' S' hh R' e' => ⟨vs, (e'.carryH R1.s hh).sqT t1, q1.mono (e'.carryH R1.s hh)⟩) h1⟩⟩
  · have hz : srcEnum S1.st x = some s := by
      cases x with
      | tup xs => exact absurd ⟨xs, rfl⟩ ht
      | _ => exact hz
    unfold srcEnum at hz
    split at hz
    · cases hz
      rename_i xs
      cases r1 with
      | @lst a vs _ t1 n1 q1 =>
        exact ⟨a, vs, rfl, .inl ⟨.inl (.inl t1), q αs1 _ H1 S1 _ R1 e1 (ite_ok rfl fun αs' hs σ' H' S' hh R' e' _ => ⟨vs, .inl (.inl (e'.keep _ _ t1 n1)), q1.mono (e'.carryH R1.s hh)⟩) h1⟩⟩
    · rename_i n
      split at hz
      · rename_i xs hx
        cases hz
        cases r1 with
        | @ref a _ e3 =>
          obtain ⟨vs, g1, g2⟩ := R1.s.obj _ _ _ hx e3
          refine ⟨a, vs, rfl, .inl ⟨.inl (.inl g1), q αs1 _ H1 S1 _ R1 e1 (ite_ok rfl fun αs' hs σ' H' S' hh R' e' hst => ?_) h1⟩⟩
          obtain ⟨ws, k1, k2⟩ := R'.s.obj _ _ _ hst (e'.pre _ _ e3)
          exact ⟨ws, .inl (.inl k1), k2⟩
      · cases hz
    · cases hz
theorem enumX_t {st : Store} {xs : List D} {s : Src} : srcEnumX st (.tup xs) = some s ↔ s = .fixed (enumD xs) := by simp [srcEnumX, eq_comm]
theorem enumX_l {st : Store} {xs : List D} {s : Src} : srcEnumX st (.lst xs) = some s ↔ s = .fixed (enumD xs) := by simp [srcEnumX, srcEnum, eq_comm]
end Ab
set_option Elab.async false
set_option linter.all false
set_option maxRecDepth 100000
set_option autoImplicit false
set_option maxHeartbeats 4000000
namespace K00
open PySem PySem.Spec PyProof.Rows L2 Ab
def t_is_integer : AT := (aRet (aAndV (aCB isiA (aCons (aVar 0) (aCons (aC (.ty "int")) aNil))) (aNotV (aCB isiA (aCons (aVar 0) (aCons (aC (.ty "bool")) aNil))))))
def t_is_tuple_of : AT := (aRet (aAndV (aCB isiA (aCons (aVar 0) (aCons (aC (.ty "tuple")) aNil))) (aOp (eqA false) (aCB lenA (aCons (aVar 0) aNil)) (aVar 1))))
def t_is_fraction (asp_is_integer : ASp) (asp_is_tuple_of : ASp) : AT := (aSeq (aIfS (aOr (aNot (aTest (aCall 2 asp_is_tuple_of (aCons (aVar 0) (aCons (aC (.int 2)) aNil))))) (aNot (aTest (aCB allA (aCons (aLC false (aSeqI (aVar 0)) (.nm 1) aYes (aCall 1 asp_is_integer (aCons (aVar 1) aNil)) [1]) aNil))))) (aRet (aC (.bl false))) aNext)
 (aRet (aAndV (aOp gtA (aOp ixA (aVar 0) (aC (.int 1))) (aC (.int 0))) (aOp (eqA false) (aCB gcdA (aCons (aOp ixA (aVar 0) (aC (.int 0))) (aCons (aOp ixA (aVar 0) (aC (.int 1))) aNil))) (aC (.int 1))))))
def t_lowest : AT := (aSeq (aAsg (aCB gcdA (aCons (aVar 0) (aCons (aVar 1) aNil))) (gName 2))
 (aSeq (aIfS (aTest (aOp ltA (aVar 1) (aC (.int 0)))) (aAsg (aUn negA (aVar 2)) (gName 2)) aNext)
 (aRet (aTup (aCons (aOp fdivA (aVar 0) (aVar 2)) (aCons (aOp fdivA (aVar 1) (aVar 2)) aNil))))))
def t_fraction (asp_is_integer : ASp) (C_InvalidNumber : Addr) (asp_lowest : ASp) : AT := (aSeq (aIfS (aNot (aTest (aCall 1 asp_is_integer (aCons (aVar 0) aNil)))) (aRaise C_InvalidNumber "given" (aCons (aVar 0) aNil)) aNext)
 (aSeq (aIfS (aOr (aNot (aTest (aCall 1 asp_is_integer (aCons (aVar 1) aNil)))) (aTest (aOp (eqA false) (aVar 1) (aC (.int 0))))) (aRaise C_InvalidNumber "given" (aCons (aVar 1) aNil)) aNext)
 (aRet (aCall 2 asp_lowest (aCons (aVar 0) (aCons (aVar 1) aNil))))))
def t_add (asp_lowest : ASp) : AT := (aRet (aCall 2 asp_lowest (aCons (aOp (addA false) (aOp (mulA false) (aOp ixA (aVar 0) (aC (.int 0))) (aOp ixA (aVar 1) (aC (.int 1)))) (aOp (mulA false) (aOp ixA (aVar 1) (aC (.int 0))) (aOp ixA (aVar 0) (aC (.int 1))))) (aCons (aOp (mulA false) (aOp ixA (aVar 0) (aC (.int 1))) (aOp ixA (aVar 1) (aC (.int 1)))) aNil))))
def t_subtract (asp_lowest : ASp) : AT := (aRet (aCall 2 asp_lowest (aCons (aOp subA (aOp (mulA false) (aOp ixA (aVar 0) (aC (.int 0))) (aOp ixA (aVar 1) (aC (.int 1)))) (aOp (mulA false) (aOp ixA (aVar 1) (aC (.int 0))) (aOp ixA (aVar 0) (aC (.int 1))))) (aCons (aOp (mulA false) (aOp ixA (aVar 0) (aC (.int 1))) (aOp ixA (aVar 1) (aC (.int 1)))) aNil))))
def t_multiply (asp_lowest : ASp) : AT := (aRet (aCall 2 asp_lowest (aCons (aOp (mulA false) (aOp ixA (aVar 0) (aC (.int 0))) (aOp ixA (aVar 1) (aC (.int 0)))) (aCons (aOp (mulA false) (aOp ixA (aVar 0) (aC (.int 1))) (aOp ixA (aVar 1) (aC (.int 1)))) aNil))))
def t_divide (C_DividedByZero : Addr) (asp_lowest : ASp) : AT := (aSeq (aIfS (aTest (aOp (eqA false) (aOp ixA (aVar 1) (aC (.int 0))) (aC (.int 0)))) (aRaise0 C_DividedByZero) aNext)
 (aRet (aCall 2 asp_lowest (aCons (aOp (mulA false) (aOp ixA (aVar 0) (aC (.int 0))) (aOp ixA (aVar 1) (aC (.int 1)))) (aCons (aOp (mulA false) (aOp ixA (aVar 0) (aC (.int 1))) (aOp ixA (aVar 1) (aC (.int 0)))) aNil)))))
def t_compare : AT := (aSeq (aPar 2 3 (aCons (aOp (mulA false) (aOp ixA (aVar 0) (aC (.int 0))) (aOp ixA (aVar 1) (aC (.int 1)))) (aCons (aOp (mulA false) (aOp ixA (aVar 1) (aC (.int 0))) (aOp ixA (aVar 0) (aC (.int 1)))) aNil)))
 (aRet (aOp subA (aCB intA (aCons (aOp gtA (aVar 2) (aVar 3)) aNil)) (aCB intA (aCons (aOp ltA (aVar 2) (aVar 3)) aNil)))))
def t_law_cell : AT := (aRet (aIf (aTest (aOp ltA (aVar 1) (aCB lenA (aCons (aVar 0) aNil)))) (aOp ixA (aVar 0) (aVar 1)) (aOp (addA false) (aOp (mulA false) (aC (.int 6007)) (aVar 1)) (aOp modA (aCB intA (aCons (aCB sumA (aCons (aSl (slA false) (aVar 0) aNoPart (aPart (aC (.int 1)))) aNil)) aNil)) (aC (.int 1000033))))))
def t_law_box : AT := (aRet (aLst true (aCons (aCB absA (aCons (aVar 0) aNil)) (aCons (aOp geA (aCB absA (aCons (aVar 0) aNil)) (aOp powA (aC (.int 10)) (aC (.int 18)))) (aCons (aOp modA (aCB intA (aCons (aCB absA (aCons (aVar 0) aNil)) aNil)) (aC (.int 2147483629))) (aCons (aC (.int 0)) aNil))))))
def t_law_take : AT := (aSeq (aIfS (aAnd (aTest (aOp ixA (aVar 0) (aC (.int 1)))) (aTest (aOp gtA (aOp ixA (aVar 0) (aC (.int 0))) (aC (.int 0))))) (aSeq (aAsg (aOp modA (aCB intA (aCons (aOp ixA (aVar 0) (aC (.int 0))) aNil)) (aVar 1)) (gName 3))
 (aSeq (aAsg (aOp fdivA (aOp ixA (aVar 0) (aC (.int 0))) (aVar 1)) (gSub setA (aVar 0) (aC (.int 0))))
 (aRet (aVar 3)))) aNext)
 (aSeq (aAsg (aOp (addA false) (aOp ixA (aVar 0) (aC (.int 3))) (aC (.int 1))) (gSub setA (aVar 0) (aC (.int 3))))
 (aSeq (aAsg (aOp modA (aCB intA (aCons (aOp powA (aOp (addA false) (aOp (addA false) (aOp ixA (aVar 0) (aC (.int 2))) (aOp (mulA false) (aC (.int 15485863)) (aOp ixA (aVar 0) (aC (.int 3))))) (aC (.int 179424673))) (aC (.int 5))) aNil)) (aC (.int 2147483647))) (gName 2))
 (aRet (aOp modA (aCB intA (aCons (aOp fdivA (aOp modA (aCB intA (aCons (aOp powA (aOp (addA false) (aOp (mulA false) (aVar 2) (aC (.int 48271))) (aOp (mulA false) (aC (.int 104729)) (aOp ixA (aVar 0) (aC (.int 3))))) (aC (.int 3))) aNil)) (aC (.int 2147483587))) (aC (.int 64))) aNil)) (aVar 1))))))
def t_law_same (asp_law_same : ASp) : AT := (aSeq (aIfS (aOr (aTest (aOp (isA false) (aVar 1) (aC .non))) (aTest (aCB isiA (aCons (aVar 1) (aCons (aC (.ty "bool")) aNil))))) (aRet (aIf (aTest (aOp (isA false) (aVar 1) (aC .non))) (aOp (isA false) (aVar 0) (aC .non)) (aAndV (aCB isiA (aCons (aVar 0) (aCons (aC (.ty "bool")) aNil))) (aOp (eqA false) (aOp (isA false) (aVar 0) (aC (.bl true))) (aOp (isA false) (aVar 1) (aC (.bl true))))))) aNext)
 (aSeq (aIfS (aTest (aCB isiA (aCons (aVar 1) (aCons (aC (.ty "int")) aNil)))) (aRet (aAndV (aCB isiA (aCons (aVar 0) (aCons (aC (.ty "int")) aNil))) (aAndV (aNotV (aCB isiA (aCons (aVar 0) (aCons (aC (.ty "bool")) aNil)))) (aOp (eqA false) (aOp subA (aCB intA (aCons (aVar 0) aNil)) (aVar 1)) (aC (.int 0)))))) aNext)
 (aSeq (aIfS (aTest (aCB isiA (aCons (aVar 1) (aCons (aC (.ty "str")) aNil)))) (aRet (aAndV (aCB isiA (aCons (aVar 0) (aCons (aC (.ty "str")) aNil))) (aAndV (aOp (eqA false) (aCB lenA (aCons (aVar 0) aNil)) (aCB lenA (aCons (aVar 1) aNil))) (aOp (eqA false) (aLC false (aRange1 (aCons (aCB lenA (aCons (aVar 1) aNil)) aNil)) (.nm 2) (aTest (aOp (eqA true) (aSl (slA false) (aVar 0) (aPart (aVar 2)) (aPart (aOp (addA false) (aVar 2) (aC (.int 1))))) (aOp ixA (aVar 1) (aVar 2)))) (aVar 2) [2]) (aLst false aNil))))) aNext)
 (aSeq (aIfS (aOr (aTest (aOp (eqA true) (aCB isiA (aCons (aVar 0) (aCons (aC (.ty "list")) aNil))) (aCB isiA (aCons (aVar 1) (aCons (aC (.ty "list")) aNil))))) (aTest (aOp (eqA true) (aCB isiA (aCons (aVar 0) (aCons (aC (.ty "tuple")) aNil))) (aCB isiA (aCons (aVar 1) (aCons (aC (.ty "tuple")) aNil)))))) (aRet (aC (.bl false))) aNext)
 (aRet (aAndV (aOp (eqA false) (aCB lenA (aCons (aVar 0) aNil)) (aCB lenA (aCons (aVar 1) aNil))) (aOp (eqA false) (aLC false (aRange1 (aCons (aCB lenA (aCons (aVar 1) aNil)) aNil)) (.nm 2) (aNot (aTest (aCall 2 asp_law_same (aCons (aOp ixA (aVar 0) (aVar 2)) (aCons (aOp ixA (aVar 1) (aVar 2)) aNil))))) (aVar 2) [2]) (aLst false aNil))))))))
def t_law_gcd : AT := (aSeq (aPar 0 1 (aCons (aCB absA (aCons (aVar 0) aNil)) (aCons (aCB absA (aCons (aVar 1) aNil)) aNil)))
 (aSeq (aWhile (aTest (aOp (eqA true) (aVar 1) (aC (.int 0)))) (aPar 0 1 (aCons (aVar 1) (aCons (aOp modA (aVar 0) (aVar 1)) aNil))))
 (aRet (aVar 0))))
def t_law_low (asp_law_gcd : ASp) : AT := (aSeq (aIfS (aTest (aOp ltA (aVar 1) (aC (.int 0)))) (aPar 0 1 (aCons (aUn negA (aVar 0)) (aCons (aUn negA (aVar 1)) aNil))) aNext)
 (aSeq (aAsg (aCall 2 asp_law_gcd (aCons (aVar 0) (aCons (aVar 1) aNil))) (gName 2))
 (aRet (aTup (aCons (aOp fdivA (aVar 0) (aVar 2)) (aCons (aOp fdivA (aVar 1) (aVar 2)) aNil))))))
def t_law_add (asp_law_low : ASp) : AT := (aRet (aCall 2 asp_law_low (aCons (aOp (addA false) (aOp (mulA false) (aOp ixA (aVar 0) (aC (.int 0))) (aOp ixA (aVar 1) (aC (.int 1)))) (aOp (mulA false) (aOp ixA (aVar 1) (aC (.int 0))) (aOp ixA (aVar 0) (aC (.int 1))))) (aCons (aOp (mulA false) (aOp ixA (aVar 0) (aC (.int 1))) (aOp ixA (aVar 1) (aC (.int 1)))) aNil))))
def t_law_less (asp_law_low : ASp) : AT := (aRet (aCall 2 asp_law_low (aCons (aOp subA (aOp (mulA false) (aOp ixA (aVar 0) (aC (.int 0))) (aOp ixA (aVar 1) (aC (.int 1)))) (aOp (mulA false) (aOp ixA (aVar 1) (aC (.int 0))) (aOp ixA (aVar 0) (aC (.int 1))))) (aCons (aOp (mulA false) (aOp ixA (aVar 0) (aC (.int 1))) (aOp ixA (aVar 1) (aC (.int 1)))) aNil))))
def t_law_mul (asp_law_low : ASp) : AT := (aRet (aCall 2 asp_law_low (aCons (aOp (mulA false) (aOp ixA (aVar 0) (aC (.int 0))) (aOp ixA (aVar 1) (aC (.int 0)))) (aCons (aOp (mulA false) (aOp ixA (aVar 0) (aC (.int 1))) (aOp ixA (aVar 1) (aC (.int 1)))) aNil))))
def t_law_div (asp_law_low : ASp) : AT := (aRet (aCall 2 asp_law_low (aCons (aOp (mulA false) (aOp ixA (aVar 0) (aC (.int 0))) (aOp ixA (aVar 1) (aC (.int 1)))) (aCons (aOp (mulA false) (aOp ixA (aVar 0) (aC (.int 1))) (aOp ixA (aVar 1) (aC (.int 0)))) aNil))))
def t_law_below : AT := (aRet (aOp ltA (aOp (mulA false) (aOp ixA (aVar 0) (aC (.int 0))) (aOp ixA (aVar 1) (aC (.int 1)))) (aOp (mulA false) (aOp ixA (aVar 1) (aC (.int 0))) (aOp ixA (aVar 0) (aC (.int 1))))))
def t_law_fraction (asp_law_take : ASp) (asp_law_low : ASp) : AT := (aSeq (aAsg (aCall 2 asp_law_take (aCons (aVar 0) (aCons (aC (.int 6)) aNil))) (gName 1))
 (aSeq (aIfS (aTest (aOp (eqA false) (aVar 1) (aC (.int 0)))) (aRet (aTup (aCons (aOp subA (aCall 2 asp_law_take (aCons (aVar 0) (aCons (aC (.int 5)) aNil))) (aC (.int 2))) (aCons (aC (.int 1)) aNil)))) aNext)
 (aSeq (aIfS (aTest (aOp (eqA false) (aVar 1) (aC (.int 1)))) (aRet (aCall 2 asp_law_low (aCons (aOp subA (aCall 2 asp_law_take (aCons (aVar 0) (aCons (aC (.int 1999999)) aNil))) (aC (.int 999999))) (aCons (aOp (addA false) (aC (.int 1)) (aCall 2 asp_law_take (aCons (aVar 0) (aCons (aC (.int 999999)) aNil)))) aNil)))) aNext)
 (aRet (aCall 2 asp_law_low (aCons (aOp subA (aCall 2 asp_law_take (aCons (aVar 0) (aCons (aC (.int 25)) aNil))) (aC (.int 12))) (aCons (aOp (addA false) (aC (.int 1)) (aCall 2 asp_law_take (aCons (aVar 0) (aCons (aC (.int 12)) aNil)))) aNil)))))))
def t_law_fits : AT := (aRet (aAndV (aOp ltA (aCB absA (aCons (aOp ixA (aVar 0) (aC (.int 0))) aNil)) (aC (.int 1000000))) (aOp ltA (aOp ixA (aVar 0) (aC (.int 1))) (aC (.int 1000000)))))
def t_law_is_int : AT := (aRet (aAndV (aCB isiA (aCons (aVar 0) (aCons (aC (.ty "int")) aNil))) (aNotV (aCB isiA (aCons (aVar 0) (aCons (aC (.ty "bool")) aNil))))))
def t_law_is_fraction (asp_law_is_int : ASp) (asp_law_gcd : ASp) : AT := (aSeq (aIfS (aOr (aNot (aTest (aCB isiA (aCons (aVar 0) (aCons (aC (.ty "tuple")) aNil))))) (aOr (aTest (aOp (eqA true) (aCB lenA (aCons (aVar 0) aNil)) (aC (.int 2)))) (aOr (aNot (aTest (aCall 1 asp_law_is_int (aCons (aOp ixA (aVar 0) (aC (.int 0))) aNil)))) (aNot (aTest (aCall 1 asp_law_is_int (aCons (aOp ixA (aVar 0) (aC (.int 1))) aNil))))))) (aRet (aC (.bl false))) aNext)
 (aRet (aAndV (aOp gtA (aOp ixA (aVar 0) (aC (.int 1))) (aC (.int 0))) (aOp (eqA false) (aCall 2 asp_law_gcd (aCons (aOp ixA (aVar 0) (aC (.int 0))) (aCons (aOp ixA (aVar 0) (aC (.int 1))) aNil))) (aC (.int 1))))))
def t_law_said (asp_fraction : ASp) (asp_divide : ASp) (C_InvalidNumber : Addr) (C_DividedByZero : Addr) (m : Value → Value → Option Bool) : AT := (aTry m [(.ref C_InvalidNumber, some 3, fun a cls dd => (aRet (aLst false (aCons (aC (.str "number")) (aCons (aXf a cls dd C_InvalidNumber "given" (aVar 3)) aNil))))), (.ref C_DividedByZero, none, fun a cls dd => (aRet (aLst false (aCons (aC (.str "zero")) aNil))))] (aSeq (aIfS (aTest (aOp (eqA false) (aVar 0) (aC (.int 0)))) (aRet (aLst false (aCons (aC (.str "told")) (aCons (aCall 2 asp_fraction (aCons (aVar 1) (aCons (aVar 2) aNil))) aNil)))) aNext)
 (aSeq (aIfS (aTest (aOp (eqA false) (aVar 0) (aC (.int 1)))) (aRet (aLst false (aCons (aC (.str "told")) (aCons (aCallK 0 2 [1, 0] 2 asp_fraction aNil (aCons (aVar 2) (aCons (aVar 1) aNil))) aNil)))) aNext)
 (aRet (aLst false (aCons (aC (.str "told")) (aCons (aIf (aTest (aOp (eqA false) (aVar 0) (aC (.int 2)))) (aCall 2 asp_divide (aCons (aVar 1) (aCons (aVar 2) aNil))) (aCallK 0 2 [1, 0] 2 asp_divide aNil (aCons (aVar 2) (aCons (aVar 1) aNil)))) aNil)))))))
def t_law_pair_right (asp_law_below : ASp) (asp_law_mul : ASp) (asp_law_less : ASp) (asp_law_add : ASp) (asp_compare : ASp) (asp_multiply : ASp) (asp_subtract : ASp) (asp_add : ASp) (asp_law_same : ASp) (asp_law_fits : ASp) (asp_law_div : ASp) (asp_law_said : ASp) (asp_divide : ASp) : AT := (aSeq (aAsg (aLst false (aCons (aCall 2 asp_law_add (aCons (aVar 0) (aCons (aVar 1) aNil))) (aCons (aCall 2 asp_law_less (aCons (aVar 0) (aCons (aVar 1) aNil))) (aCons (aCall 2 asp_law_mul (aCons (aVar 0) (aCons (aVar 1) aNil))) (aCons (aOp subA (aCB intA (aCons (aCall 2 asp_law_below (aCons (aVar 1) (aCons (aVar 0) aNil))) aNil)) (aCB intA (aCons (aCall 2 asp_law_below (aCons (aVar 0) (aCons (aVar 1) aNil))) aNil))) aNil))))) (gName 2))
 (aSeq (aAsg (aLst false (aCons (aCall 2 asp_add (aCons (aVar 0) (aCons (aVar 1) aNil))) (aCons (aCall 2 asp_subtract (aCons (aVar 0) (aCons (aVar 1) aNil))) (aCons (aCall 2 asp_multiply (aCons (aVar 0) (aCons (aVar 1) aNil))) (aCons (aCall 2 asp_compare (aCons (aVar 0) (aCons (aVar 1) aNil))) aNil))))) (gName 3))
 (aSeq (aAsg (aLst false (aCons (aCallK 0 2 [1, 0] 2 asp_add aNil (aCons (aVar 1) (aCons (aVar 0) aNil))) (aCons (aCallK 0 2 [1, 0] 2 asp_subtract aNil (aCons (aVar 1) (aCons (aVar 0) aNil))) (aCons (aCallK 0 2 [1, 0] 2 asp_multiply aNil (aCons (aVar 1) (aCons (aVar 0) aNil))) (aCons (aCallK 0 2 [1, 0] 2 asp_compare aNil (aCons (aVar 1) (aCons (aVar 0) aNil))) aNil))))) (gName 4))
 (aSeq (aIfS (aOr (aNot (aTest (aCall 2 asp_law_same (aCons (aVar 3) (aCons (aVar 2) aNil))))) (aOr (aNot (aTest (aCall 2 asp_law_same (aCons (aVar 4) (aCons (aVar 2) aNil))))) (aNot (aTest (aCall 2 asp_law_same (aCons (aLst false (aCons (aCall 2 asp_add (aCons (aVar 1) (aCons (aVar 0) aNil))) (aCons (aCall 2 asp_multiply (aCons (aVar 1) (aCons (aVar 0) aNil))) aNil))) (aCons (aLst false (aCons (aOp ixA (aVar 2) (aC (.int 0))) (aCons (aOp ixA (aVar 2) (aC (.int 2))) aNil))) aNil))))))) (aRet (aC (.bl false))) aNext)
 (aSeq (aIfS (aOr (aAnd (aTest (aCall 1 asp_law_fits (aCons (aOp ixA (aVar 2) (aC (.int 0))) aNil))) (aNot (aTest (aCall 2 asp_law_same (aCons (aCall 2 asp_subtract (aCons (aOp ixA (aVar 3) (aC (.int 0))) (aCons (aVar 1) aNil))) (aCons (aVar 0) aNil)))))) (aNot (aTest (aCall 2 asp_law_same (aCons (aCall 2 asp_compare (aCons (aVar 1) (aCons (aVar 0) aNil))) (aCons (aUn negA (aOp ixA (aVar 2) (aC (.int 3)))) aNil)))))) (aRet (aC (.bl false))) aNext)
 (aSeq (aAsg (aIf (aTest (aOp (eqA false) (aOp ixA (aVar 1) (aC (.int 0))) (aC (.int 0)))) (aLst false (aCons (aC (.str "zero")) aNil)) (aLst false (aCons (aC (.str "told")) (aCons (aCall 2 asp_law_div (aCons (aVar 0) (aCons (aVar 1) aNil))) aNil)))) (gName 5))
 (aSeq (aIfS (aOr (aNot (aTest (aCall 2 asp_law_same (aCons (aCall 3 asp_law_said (aCons (aC (.int 2)) (aCons (aVar 0) (aCons (aVar 1) aNil)))) (aCons (aVar 5) aNil))))) (aNot (aTest (aCall 2 asp_law_same (aCons (aCall 3 asp_law_said (aCons (aC (.int 3)) (aCons (aVar 0) (aCons (aVar 1) aNil)))) (aCons (aVar 5) aNil)))))) (aRet (aC (.bl false))) aNext)
 (aRet (aOrV (aOp (eqA false) (aOp ixA (aVar 1) (aC (.int 0))) (aC (.int 0))) (aOrV (aNotV (aCall 1 asp_law_fits (aCons (aOp ixA (aVar 2) (aC (.int 2))) aNil))) (aCall 2 asp_law_same (aCons (aCall 2 asp_divide (aCons (aOp ixA (aVar 3) (aC (.int 2))) (aCons (aVar 1) aNil))) (aCons (aVar 0) aNil)))))))))))))
def t_law_near : AT := (aSeq (aAsg (aVar 0) (gTup 2 (gCons (gName 1) (gCons (gName 2) gNil))))
 (aSeq (aAsg (aLst true (aCons (aVar 0) (aCons (aLst false (aCons (aVar 1) (aCons (aVar 2) aNil))) (aCons (aTup (aCons (aOp (mulA false) (aC (.int 2)) (aVar 1)) (aCons (aOp (mulA false) (aC (.int 2)) (aVar 2)) aNil))) (aCons (aTup (aCons (aOp (mulA false) (aC (.int 3)) (aVar 1)) (aCons (aOp (mulA false) (aC (.int 3)) (aVar 2)) aNil))) (aCons (aTup (aCons (aUn negA (aVar 1)) (aCons (aUn negA (aVar 2)) aNil))) (aCons (aTup (aCons (aVar 1) (aCons (aC (.int 0)) aNil))) (aCons (aTup (aCons (aC (.int 0)) (aCons (aVar 2) aNil))) (aCons (aTup (aCons (aVar 2) (aCons (aVar 1) aNil))) (aCons (aTup (aCons (aVar 1) aNil)) aNil)))))))))) (gName 3))
 (aSeq (aExpr (aBM "list" extendA (aVar 3) (aCons (aLst false (aCons (aTup (aCons (aVar 1) (aCons (aVar 2) (aCons (aC (.int 1)) aNil)))) (aCons (aVar 1) (aCons (aC .non) (aCons (aC (.bl true)) (aCons (aCB strA (aCons (aVar 1) aNil)) (aCons (aTup (aCons (aC (.bl true)) (aCons (aC (.int 1)) aNil))) (aCons (aTup (aCons (aC (.int 1)) (aCons (aC (.bl true)) aNil))) (aCons (aTup (aCons (aVar 1) (aCons (aC .non) aNil))) (aCons (aTup (aCons (aCB strA (aCons (aVar 1) aNil)) (aCons (aVar 2) aNil))) (aCons (aTup (aCons (aTup (aCons (aVar 1) (aCons (aC (.int 1)) aNil))) (aCons (aVar 2) aNil))) aNil))))))))))) aNil)))
 (aRet (aOp (addA false) (aVar 3) (aLst false (aCons (aTup (aCons (aC (.int 0)) (aCons (aC (.int 1)) aNil))) (aCons (aTup (aCons (aC (.int 0)) (aCons (aC (.int 2)) aNil))) (aCons (aTup (aCons (aC (.int 0)) (aCons (aC (.int 0)) aNil))) (aCons (aTup (aCons (aC (.int 1)) (aCons (aC (.int 1)) aNil))) (aCons aDk0 (aCons (aTup aNil) (aCons (aTup (aCons (aOp (addA false) (aVar 1) (aVar 2)) (aCons (aVar 2) aNil))) (aCons (aTup (aCons (aC (.bl false)) (aCons (aC (.int 1)) aNil))) aNil))))))))))))))
def t_law_made_right (asp_law_take : ASp) (asp_law_fraction : ASp) (asp_law_same : ASp) (asp_law_low : ASp) (asp_law_said : ASp) : AT := (aSeq (aPar 1 2 (aCons (aOp (addA false) (aC (.int 1)) (aCall 2 asp_law_take (aCons (aVar 0) (aCons (aC (.int 30)) aNil)))) (aCons (aLst false (aCons (aC (.int 1)) (aCons (aUn negA (aC (.int 1))) aNil))) aNil)))
 (aSeq (aAsg (aCall 1 asp_law_fraction (aCons (aVar 0) aNil)) (gTup 2 (gCons (gName 3) (gCons (gName 4) gNil))))
 (aSeq (aAsg (aOp (mulA false) (aOp ixA (aLst false (aCons (aVar 3) (aCons (aOp (mulA false) (aVar 1) (aVar 3)) (aCons (aC (.int 0)) (aCons (aOp (addA false) (aCall 2 asp_law_take (aCons (aVar 0) (aCons (aC (.int 999999)) aNil))) (aC (.int 1))) aNil))))) (aCall 2 asp_law_take (aCons (aVar 0) (aCons (aC (.int 4)) aNil)))) (aOp ixA (aVar 2) (aCall 2 asp_law_take (aCons (aVar 0) (aCons (aC (.int 2)) aNil))))) (gName 5))
 (aSeq (aAsg (aOp (mulA false) (aOp ixA (aLst false (aCons (aVar 4) (aCons (aOp (mulA false) (aVar 1) (aVar 4)) (aCons (aVar 1) (aCons (aOp (addA false) (aCall 2 asp_law_take (aCons (aVar 0) (aCons (aC (.int 999999)) aNil))) (aC (.int 1))) aNil))))) (aCall 2 asp_law_take (aCons (aVar 0) (aCons (aC (.int 4)) aNil)))) (aOp ixA (aVar 2) (aCall 2 asp_law_take (aCons (aVar 0) (aCons (aC (.int 2)) aNil))))) (gName 6))
 (aSeq (aPar 5 6 (aCons (aOp (mulA false) (aOp modA (aCB intA (aCons (aCB absA (aCons (aVar 5) aNil)) aNil)) (aC (.int 999999))) (aIf (aTest (aOp geA (aVar 5) (aC (.int 0)))) (aC (.int 1)) (aUn negA (aC (.int 1))))) (aCons (aIf (aTest (aOp ltA (aCB absA (aCons (aVar 6) aNil)) (aC (.int 1000000)))) (aVar 6) (aVar 4)) aNil)))
 (aSeq (aFor (aRange1 (aCons (aC (.int 2)) aNil)) (gName 7) (aIfS (aNot (aTest (aCall 2 asp_law_same (aCons (aCall 3 asp_law_said (aCons (aVar 7) (aCons (aVar 5) (aCons (aVar 6) aNil)))) (aCons (aLst false (aCons (aC (.str "told")) (aCons (aCall 2 asp_law_low (aCons (aVar 5) (aCons (aVar 6) aNil))) aNil))) aNil))))) (aRet (aC (.bl false))) aNext))
 (aSeq (aAsg (aLst false (aCons (aC .non) (aCons (aC (.bl true)) (aCons (aC (.bl false)) (aCons (aC (.str "1")) (aCons (aTup (aCons (aC (.int 1)) (aCons (aC (.int 2)) aNil))) (aCons (aLst false (aCons (aC (.int 1)) aNil)) (aCons aDk0 aNil)))))))) (gName 8))
 (aSeq (aAsg (aOp ixA (aVar 8) (aCall 2 asp_law_take (aCons (aVar 0) (aCons (aC (.int 7)) aNil)))) (gName 9))
 (aSeq (aFor (aSeqI (aVar 8)) (gName 10) (aSeq (aIfS (aNot (aTest (aCall 2 asp_law_same (aCons (aCall 3 asp_law_said (aCons (aCall 2 asp_law_take (aCons (aVar 0) (aCons (aC (.int 2)) aNil))) (aCons (aVar 10) (aCons (aOp ixA (aLst false (aCons (aC (.int 1)) (aCons (aC (.int 0)) (aCons (aVar 9) aNil)))) (aCall 2 asp_law_take (aCons (aVar 0) (aCons (aC (.int 3)) aNil)))) aNil)))) (aCons (aLst false (aCons (aC (.str "number")) (aCons (aVar 10) aNil))) aNil))))) (aRet (aC (.bl false))) aNext)
 (aIfS (aNot (aTest (aCall 2 asp_law_same (aCons (aCall 3 asp_law_said (aCons (aCall 2 asp_law_take (aCons (aVar 0) (aCons (aC (.int 2)) aNil))) (aCons (aVar 5) (aCons (aVar 10) aNil)))) (aCons (aLst false (aCons (aC (.str "number")) (aCons (aVar 10) aNil))) aNil))))) (aRet (aC (.bl false))) aNext)))
 (aRet (aCall 2 asp_law_same (aCons (aCall 3 asp_law_said (aCons (aC (.int 0)) (aCons (aVar 5) (aCons (aC (.int 0)) aNil)))) (aCons (aLst false (aCons (aC (.str "number")) (aCons (aC (.int 0)) aNil))) aNil)))))))))))))
def t_law_right (asp_law_fraction : ASp) (asp_law_add : ASp) (asp_law_pair_right : ASp) (asp_law_fits : ASp) (asp_law_near : ASp) (asp_law_is_fraction : ASp) (asp_law_same : ASp) (asp_is_fraction : ASp) (asp_law_made_right : ASp) : AT := (aSeq (aPar 1 2 (aCons (aCall 1 asp_law_fraction (aCons (aVar 0) aNil)) (aCons (aCall 1 asp_law_fraction (aCons (aVar 0) aNil)) aNil)))
 (aSeq (aFor (aSeqI (aLst false (aCons (aTup (aCons (aVar 1) (aCons (aVar 2) aNil))) (aCons (aTup (aCons (aVar 1) (aCons (aVar 1) aNil))) (aCons (aTup (aCons (aVar 2) (aCons (aTup (aCons (aC (.int 0)) (aCons (aC (.int 1)) aNil))) aNil))) (aCons (aTup (aCons (aVar 1) (aCons (aTup (aCons (aUn negA (aOp ixA (aVar 1) (aC (.int 0)))) (aCons (aOp ixA (aVar 1) (aC (.int 1))) aNil))) aNil))) (aCons (aTup (aCons (aVar 1) (aCons (aCall 2 asp_law_add (aCons (aVar 1) (aCons (aTup (aCons (aC (.int 1)) (aCons (aC (.int 999983)) aNil))) aNil))) aNil))) aNil))))))) (gName 3) (aIfS (aAnd (aTest (aCall 1 asp_law_fits (aCons (aOp ixA (aVar 3) (aC (.int 1))) aNil))) (aNot (aTest (aCall 2 asp_law_pair_right (aCons (aOp ixA (aVar 3) (aC (.int 0))) (aCons (aOp ixA (aVar 3) (aC (.int 1))) aNil)))))) (aRet (aC (.bl false))) aNext))
 (aSeq (aFor (aSeqI (aOp (addA false) (aCall 1 asp_law_near (aCons (aVar 1) aNil)) (aCall 1 asp_law_near (aCons (aVar 2) aNil)))) (gName 4) (aSeq (aAsg (aCall 1 asp_law_is_fraction (aCons (aVar 4) aNil)) (gName 5))
 (aIfS (aOr (aNot (aTest (aCall 2 asp_law_same (aCons (aCall 1 asp_is_fraction (aCons (aVar 4) aNil)) (aCons (aVar 5) aNil))))) (aNot (aTest (aCall 2 asp_law_same (aCons (aCallK 0 1 [0] 1 asp_is_fraction aNil (aCons (aVar 4) aNil)) (aCons (aVar 5) aNil)))))) (aRet (aC (.bl false))) aNext)))
 (aRet (aCall 1 asp_law_made_right (aCons (aVar 0) aNil))))))
def t_law (asp_law_right : ASp) (asp_law_box : ASp) (asp_law_cell : ASp) : AT := (aSeq (aFor (aRange1 (aCons (aCB max2A (aCons (aC (.int 3)) (aCons (aCB min2A (aCons (aC (.int 8)) (aCons (aCB lenA (aCons (aVar 0) aNil)) aNil))) aNil))) aNil)) (gName 1) (aIfS (aNot (aTest (aCall 1 asp_law_right (aCons (aCall 1 asp_law_box (aCons (aCall 2 asp_law_cell (aCons (aVar 0) (aCons (aVar 1) aNil))) aNil)) aNil)))) (aRet (aC (.bl false))) aNext))
 (aRet (aC (.bl true))))
end K00
set_option Elab.async false
set_option linter.all false
set_option maxRecDepth 100000
set_option autoImplicit false
namespace K00
open PySem Ab
local macro_rules | `(tactic| walk_at "ab") => `(tactic| simp [-Bool.exists_bool, -Bool.forall_bool, ↓exB, ↓iteB, aSeq, aAsg, aPar, aCB, aCons, aNil, aVar, aC, gName, aIfS, aTest, aNot, aAnd, aOr, aAndV, aOrV, aNotV, aIf, aOp, aUn, aRet, aTup, aLst, bodyK, Ab.start, List.replicate, aNext, aCall, aCallK, pick, aRaise, aRaise0, qD, gSub, gTup, gNil, gCons, aExpr, aBM, aDk0, aLC, aSeqI, aRange1, aRange2, aFor, aYes, wipeD, Tg.put, eqA_int, eqA_bl, eqA_nil, ix_tup, ix_lst, ix_scr, ix_ref, at_0, at_1, at_2, at_3, add_int, add_tup, add_str, add_lst, add_refl, mul_int, sub_int, fdiv_int, mod_int, pow_int, lt_int, le_int, gt_int, ge_int, neg_int, abs_int, gcd_int, max2_int, min2_int, int_int, int_bl, str_int, is_non, is_bl, isNonD, isi_ty, in_int, in_bool, in_str, in_tuple, in_list, in_dict, isiB, ty_non, ty_bl, ty_int, ty_str, ty_tup, ty_lst, ty_dk, ty_scr, len_tup, len_lst, len_scr, len_ref, len_dk, len_str, new_f, new_t, set_ref, app_ref, ext_ref, ty_ref, src_tup, src_lst, src_scr, ex2, ex2n, ex3])
def asp_lowest : ASp := fun ds st QA _ => ∃ a b : Int, ds = [.int a, .int b] ∧ b ≠ 0 ∧ Sm 4000 b ∧ QA (qD (Rat.divInt a b)) st
theorem sm_gcd {a b : Int} (hb : b ≠ 0) (h : Sm 4000 b) : Sm 4000 ((a.natAbs.gcd b.natAbs : Nat) : Int) := by
  unfold Sm at *
  have := Nat.gcd_le_right a.natAbs (show 0 < b.natAbs by omega)
  rw [Int.natAbs_natCast]; omega
theorem gcd_ne {a b : Int} (hb : b ≠ 0) : ((a.natAbs.gcd b.natAbs : Nat) : Int) ≠ 0 := by
  intro z
  have z : a.natAbs.gcd b.natAbs = 0 := by omega
  have := Nat.eq_zero_of_gcd_eq_zero_right z
  omega
theorem sz2 : 2 ≤ sizeLine := by decide
theorem p_lowest : ∀ ds st0 QA EA, ds.length = 2 → asp_lowest ds st0 QA EA → t_lowest (bodyK st0 QA EA) ⟨Ab.start 3 ds, st0⟩ := by
  intro ds st0 QA EA hl ⟨a, b, e, hb, hs, q⟩
  subst e
  have g0 := gcd_ne (a := a) hb
  have gs := sm_gcd (a := a) hb hs
  unfold t_lowest
  walk_at "ab"
  refine ⟨fun h => ⟨divOk (by omega) gs.neg, divOk (by omega) gs.neg, sz2, .inl ?_⟩, fun h => ⟨divOk g0 gs, divOk g0 gs, sz2, .inl ?_⟩⟩
  · rw [low_of hb (by rw [if_pos h]) rfl rfl]
    exact q
  · rw [low_of hb (by rw [if_neg (by omega)]) rfl rfl]
    exact q
theorem den2 (p q : Rat) : (p.den : Int) * q.den ≠ 0 := Int.mul_ne_zero (den_ne p) (den_ne q)
theorem smq {p : Rat} (h : SmQ 1000 p) : Sm 4000 p.num ∧ Sm 4000 (p.den : Int) := h.mono (by decide)
def asp_add : ASp := fun ds st QA _ => ∃ p q : Rat, ds = [qD p, qD q] ∧ SmQ 1000 p ∧ SmQ 1000 q ∧ QA (qD (p + q)) st
def asp_sub : ASp := fun ds st QA _ => ∃ p q : Rat, ds = [qD p, qD q] ∧ SmQ 1000 p ∧ SmQ 1000 q ∧ QA (qD (p - q)) st
def asp_mul : ASp := fun ds st QA _ => ∃ p q : Rat, ds = [qD p, qD q] ∧ SmQ 1000 p ∧ SmQ 1000 q ∧ QA (qD (p * q)) st
theorem p_add : ∀ ds st0 QA EA, ds.length = 2 → asp_add ds st0 QA EA → t_add asp_lowest (bodyK st0 QA EA) ⟨Ab.start 2 ds, st0⟩ := by
  intro ds st0 QA EA hl ⟨p, q, e, hp, hq, h⟩
  subst e
  unfold t_add
  walk_at "ab"
  refine ⟨mulOk (smq hp).1 (smq hq).2, mulOk (smq hq).1 (smq hp).2, mulOk (smq hp).2 (smq hq).2, _, _, rfl, den2 p q, (hp.2.mul hq.2).mono (by decide), .inl ?_⟩
  rw [q_add]; exact h
theorem p_subtract : ∀ ds st0 QA EA, ds.length = 2 → asp_sub ds st0 QA EA → t_subtract asp_lowest (bodyK st0 QA EA) ⟨Ab.start 2 ds, st0⟩ := by
  intro ds st0 QA EA hl ⟨p, q, e, hp, hq, h⟩
  subst e
  unfold t_subtract
  walk_at "ab"
  refine ⟨mulOk (smq hp).1 (smq hq).2, mulOk (smq hq).1 (smq hp).2, mulOk (smq hp).2 (smq hq).2, _, _, rfl, den2 p q, (hp.2.mul hq.2).mono (by decide), .inl ?_⟩
  rw [q_sub]; exact h
theorem p_multiply : ∀ ds st0 QA EA, ds.length = 2 → asp_mul ds st0 QA EA → t_multiply asp_lowest (bodyK st0 QA EA) ⟨Ab.start 2 ds, st0⟩ := by
  intro ds st0 QA EA hl ⟨p, q, e, hp, hq, h⟩
  subst e
  unfold t_multiply
  walk_at "ab"
  refine ⟨mulOk (smq hp).1 (smq hq).1, mulOk (smq hp).2 (smq hq).2, _, _, rfl, den2 p q, (hp.2.mul hq.2).mono (by decide), .inl ?_⟩
  rw [q_mul]; exact h
/-- C: DividedByZero -/
def asp_divide (C : Addr) : ASp := fun ds st QA EA => ∃ p q : Rat, ds = [qD p, qD q] ∧ SmQ 1000 p ∧ SmQ 1000 q ∧ (q = 0 → EA ⟨.ref C, []⟩ st) ∧ (q ≠ 0 → QA (qD (p / q)) st)
theorem p_divide {C : Addr} : ∀ ds st0 QA EA, ds.length = 2 → asp_divide C ds st0 QA EA → t_divide C asp_lowest (bodyK st0 QA EA) ⟨Ab.start 2 ds, st0⟩ := by
  intro ds st0 QA EA hl ⟨p, q, e, hp, hq, h1, h2⟩
  subst e
  unfold t_divide
  walk_at "ab"
  refine ⟨fun hz => .inl (h1 hz), fun hz => ?_⟩
  · refine ⟨mulOk (smq hp).1 (smq hq).2, mulOk (smq hp).2 (smq hq).1, _, _, rfl, Int.mul_ne_zero (den_ne p) (by simpa using hz), (hp.2.mul hq.1).mono (by decide), .inl ?_⟩
    rw [q_div]; exact h2 hz
def cmpI (p q : Rat) : Int := (if q.num * p.den < p.num * q.den then 1 else 0) - (if p.num * q.den < q.num * p.den then 1 else 0)
def asp_compare : ASp := fun ds st QA _ => ∃ p q : Rat, ds = [qD p, qD q] ∧ SmQ 1000 p ∧ SmQ 1000 q ∧ QA (.int (cmpI p q)) st
theorem p_compare : ∀ ds st0 QA EA, ds.length = 2 → asp_compare ds st0 QA EA → t_compare (bodyK st0 QA EA) ⟨Ab.start 4 ds, st0⟩ := by
  intro ds st0 QA EA hl ⟨p, q, e, hp, hq, h⟩
  subst e
  unfold t_compare
  walk_at "ab"
  refine ⟨mulOk (smq hp).1 (smq hq).2, mulOk (smq hq).1 (smq hp).2, .inl ?_⟩
  simpa [cmpI] using h
def asp_below : ASp := fun ds st QA _ => ∃ p q : Rat, ds = [qD p, qD q] ∧ SmQ 1000 p ∧ SmQ 1000 q ∧ QA (.bl (decide (p.num * q.den < q.num * p.den))) st
theorem p_law_below : ∀ ds st0 QA EA, ds.length = 2 → asp_below ds st0 QA EA → t_law_below (bodyK st0 QA EA) ⟨Ab.start 2 ds, st0⟩ := by
  intro ds st0 QA EA hl ⟨p, q, e, hp, hq, h⟩
  subst e
  unfold t_law_below
  walk_at "ab"
  exact ⟨mulOk (smq hp).1 (smq hq).2, mulOk (smq hq).1 (smq hp).2, .inl h⟩
def asp_fits : ASp := fun ds st QA _ => ∃ p : Rat, ds = [qD p] ∧ QA (.bl (decide ((p.num.natAbs : Int) < 1000000) && decide ((p.den : Int) < 1000000))) st
theorem p_law_fits : ∀ ds st0 QA EA, ds.length = 1 → asp_fits ds st0 QA EA → t_law_fits (bodyK st0 QA EA) ⟨Ab.start 1 ds, st0⟩ := by
  intro ds st0 QA EA hl ⟨p, e, h⟩
  subst e
  unfold t_law_fits
  walk_at "ab"
  refine ⟨fun h1 => .inl ?_, fun h1 => .inl ?_⟩
  · rw [decide_eq_true h1, Bool.true_and] at h; exact h
  · rw [decide_eq_false (by omega), Bool.false_and] at h; exact h
/-! ### kinds of values -/
def asp_is_int : ASp := fun ds st QA _ => ∃ x T, ds = [x] ∧ tyName st x = some T ∧ QA (.bl (T == "int")) st
theorem p_is_integer : ∀ ds st0 QA EA, ds.length = 1 → asp_is_int ds st0 QA EA → t_is_integer (bodyK st0 QA EA) ⟨Ab.start 1 ds, st0⟩ := by
  intro ds st0 QA EA hl ⟨x, T, e, hT, h⟩
  subst e
  unfold t_is_integer
  walk_at "ab"
  refine ⟨T, hT, fun h1 => ⟨T, hT, .inl ?_⟩, fun h1 h2 => .inl ?_⟩
  · rcases h1 with h1 | h1 <;> subst h1 <;> exact h
  · rw [show (T == "int") = false by simp [h1]] at h; exact h
theorem p_law_is_int : ∀ ds st0 QA EA, ds.length = 1 → asp_is_int ds st0 QA EA → t_law_is_int (bodyK st0 QA EA) ⟨Ab.start 1 ds, st0⟩ := p_is_integer
def asp_gcd : ASp := fun ds st QA _ => ∃ a b : Int, ds = [.int a, .int b] ∧ QA (.int (a.natAbs.gcd b.natAbs : Nat)) st
theorem wh_gcd : ∀ (n a b : Nat) (E : AK) (st : Store), b ≤ n → E.nx ⟨[some (.int (a.gcd b : Nat)), some (.int 0)], st⟩ →
    whA (aTest (aOp (eqA true) (aVar 1) (aC (.int 0)))) (aPar 0 1 (aCons (aVar 1) (aCons (aOp modA (aVar 0) (aVar 1)) aNil))) E (n + 1) ⟨[some (.int a), some (.int b)], st⟩
  | 0, a, b, E, st, hb, h => by
    have : b = 0 := by omega
    subst this
    rw [whA]
    walk_at "ab"
    simpa using h
  | n + 1, a, b, E, st, hb, h => by
    rw [whA]
    walk_at "ab"
    refine ⟨fun h0 => ⟨h0, ?_⟩, fun h0 => ?_⟩
    · have e : (a : Int).fmod b = ((a % b : Nat) : Int) := by rw [Int.fmod_eq_emod_of_nonneg _ (by omega), Int.natCast_emod]
      rw [e]
      have := Nat.mod_lt a (show 0 < b by omega)
      refine wh_gcd n b (a % b) _ st (by omega) ?_
      rw [Nat.gcd_comm, ← Nat.gcd_rec, Nat.gcd_comm]
      exact h
    · subst h0
      simpa using h
theorem p_law_gcd : ∀ ds st0 QA EA, ds.length = 2 → asp_gcd ds st0 QA EA → t_law_gcd (bodyK st0 QA EA) ⟨Ab.start 2 ds, st0⟩ := by
  intro ds st0 QA EA hl ⟨a, b, e, h⟩
  subst e
  unfold t_law_gcd
  walk_at "ab"
  refine ⟨b.natAbs + 1, wh_gcd b.natAbs a.natAbs b.natAbs _ st0 (Nat.le_refl _) ?_⟩
  walk_at "ab"
  exact .inl h
def asp_low : ASp := fun ds st QA _ => ∃ a b : Int, ds = [.int a, .int b] ∧ b ≠ 0 ∧ Sm 4000 b ∧ QA (qD (Rat.divInt a b)) st
theorem p_law_low : ∀ ds st0 QA EA, ds.length = 2 → asp_low ds st0 QA EA → t_law_low asp_gcd (bodyK st0 QA EA) ⟨Ab.start 3 ds, st0⟩ := by
  intro ds st0 QA EA hl ⟨a, b, e, hb, hs, q⟩
  subst e
  have g0 := gcd_ne (a := a) hb
  have gs := sm_gcd (a := a) hb hs
  unfold t_law_low
  walk_at "ab"
  refine ⟨fun h => ⟨_, _, rfl, ?_⟩, fun h => ⟨_, _, rfl, ?_⟩⟩ <;> walk_at "ab"
  · 
    refine ⟨divOk g0 gs, divOk g0 gs, sz2, .inl ?_⟩
    have e1 : ∀ x : Int, (-x).fdiv ((a.natAbs.gcd b.natAbs : Nat) : Int) = x.fdiv (-((a.natAbs.gcd b.natAbs : Nat) : Int)) := fun x => by
      rw [← Int.neg_fdiv_neg, Int.neg_neg]
    rw [e1, e1, low_of hb (by rw [if_pos h]) rfl rfl]
    exact q
  · refine ⟨divOk g0 gs, divOk g0 gs, sz2, .inl ?_⟩
    rw [low_of hb (by rw [if_neg (by omega)]) rfl rfl]
    exact q
theorem p_law_add : ∀ ds st0 QA EA, ds.length = 2 → asp_add ds st0 QA EA → t_law_add asp_low (bodyK st0 QA EA) ⟨Ab.start 2 ds, st0⟩ := p_add
theorem p_law_less : ∀ ds st0 QA EA, ds.length = 2 → asp_sub ds st0 QA EA → t_law_less asp_low (bodyK st0 QA EA) ⟨Ab.start 2 ds, st0⟩ := p_subtract
theorem p_law_mul : ∀ ds st0 QA EA, ds.length = 2 → asp_mul ds st0 QA EA → t_law_mul asp_low (bodyK st0 QA EA) ⟨Ab.start 2 ds, st0⟩ := p_multiply
def asp_div : ASp := fun ds st QA _ => ∃ p q : Rat, ds = [qD p, qD q] ∧ SmQ 1000 p ∧ SmQ 1000 q ∧ q ≠ 0 ∧ QA (qD (p / q)) st
theorem p_law_div : ∀ ds st0 QA EA, ds.length = 2 → asp_div ds st0 QA EA → t_law_div asp_low (bodyK st0 QA EA) ⟨Ab.start 2 ds, st0⟩ := by
  intro ds st0 QA EA hl ⟨p, q, e, hp, hq, hz, h⟩
  subst e
  unfold t_law_div
  walk_at "ab"
  refine ⟨mulOk (smq hp).1 (smq hq).2, mulOk (smq hp).2 (smq hq).1, _, _, rfl, Int.mul_ne_zero (den_ne p) (by simpa using hz), (hp.2.mul hq.1).mono (by decide), .inl ?_⟩
  rw [q_div]; exact h
def asp_tup_of : ASp := fun ds st QA _ => ∃ x n T, ds = [x, .int n] ∧ tyName st x = some T ∧ QA (.bl (match x with | .tup xs => decide ((xs.length : Int) = n) | _ => false)) st
theorem ty_tuple {st : Store} {x : D} : tyName st x = some "tuple" → ∃ xs, x = .tup xs := by
  intro h
  cases x with
  | tup xs => exact ⟨xs, rfl⟩
  | ref n =>
    simp only [tyName] at h
    split at h <;> simp at h
  | _ => simp [tyName] at h
theorem p_is_tuple_of : ∀ ds st0 QA EA, ds.length = 2 → asp_tup_of ds st0 QA EA → t_is_tuple_of (bodyK st0 QA EA) ⟨Ab.start 2 ds, st0⟩ := by
  intro ds st0 QA EA hl ⟨x, n, T, e, hT, h⟩
  subst e
  unfold t_is_tuple_of
  walk_at "ab"
  refine ⟨T, hT, fun h1 => ?_, fun h1 => ?_⟩
  · subst h1
    obtain ⟨xs, e⟩ := ty_tuple hT
    subst e
    walk_at "ab"
    exact .inl h
  · refine .inl ?_
    cases x with
    | tup xs => rw [ty_tup] at hT; cases hT; exact absurd rfl h1
    | _ => exact h
def isI : D → Bool
  | .int _ => true
  | _ => false
def isFr : D → Bool
  | .tup [.int a, .int b] => decide (0 < b) && decide (((a.natAbs.gcd b.natAbs : Nat) : Int) = 1)
  | _ => false
def TyOk (st : Store) (x : D) : Prop := (∃ T, tyName st x = some T) ∧ ∀ xs, x = .tup xs → xs.length ≤ sizeLine ∧ ∀ y ∈ xs, ∃ T, tyName st y = some T
def asp_is_fr : ASp := fun ds st QA _ => ∃ x, ds = [x] ∧ TyOk st x ∧ QA (.bl (isFr x)) st
theorem ty_i {st : Store} {x : D} {T : String} (h : tyName st x = some T) (hT : T = "int") : ∃ i, x = .int i := by
  subst hT
  cases x with
  | int i => exact ⟨i, rfl⟩
  | ref n =>
    simp only [tyName] at h
    split at h <;> simp at h
  | _ => simp [tyName] at h
theorem p_is_fraction : ∀ ds st0 QA EA, ds.length = 1 → asp_is_fr ds st0 QA EA → t_is_fraction asp_is_int asp_tup_of (bodyK st0 QA EA) ⟨Ab.start 2 ds, st0⟩ := by
  intro ds st0 QA EA hl ⟨x, e, ⟨⟨T, hT⟩, hx⟩, h⟩
  subst e
  unfold t_is_fraction
  walk_at "ab"
  refine ⟨_, _, T, rfl, hT, ?_⟩
  by_cases hy : ∃ y z, x = .tup [y, z]
  · obtain ⟨y, z, e⟩ := hy
    subst e
    obtain ⟨hz, hy⟩ := hx _ rfl
    obtain ⟨Ty, hTy⟩ := hy y (by simp)
    obtain ⟨Tz, hTz⟩ := hy z (by simp)
    walk_at "ab"
    refine compL_ok (p := fun _ => true) (g := fun d => .bl (isI d)) [y, z] [] (fun d hd => ?_) hz ?_
    · refine ⟨_, rfl, fun A B hA hB => ?_⟩
      obtain ⟨Td, hTd⟩ := hy d hd
      walk_at "ab"
      refine ⟨d, Td, rfl, hTd, ?_⟩
      have e : (Td == "int") = isI d := by
        by_cases hT : Td = "int"
        · obtain ⟨i, e⟩ := ty_i hTd hT
          subst e hT
          rfl
        · rw [show (Td == "int") = false by simpa using hT]
          cases d with
          | int i => rw [ty_int] at hTd; cases hTd; exact absurd rfl hT
          | _ => rfl
      rw [e]
      exact hA rfl
    · walk_at "ab"
      show allA [.lst ([isI y, isI z].map D.bl)] _ _
      rw [all_lst]
      walk_at "ab"
      refine ⟨fun h1 => .inl ?_, fun h1 h2 => ?_⟩
      · have e : isFr (.tup [y, z]) = false := by
          cases y <;> cases z <;> first | rfl | (exfalso; simpa [isI] using h1)
        rw [e] at h; exact h
      · cases y <;> first | (cases h1; done) | skip
        cases z <;> first | (cases h2; done) | skip
        walk_at "ab"
        rename_i a b
        refine ⟨fun h3 => .inl ?_, fun h3 => .inl ?_⟩
        · simp only [isFr] at h
          rw [decide_eq_true h3, Bool.true_and] at h
          exact h
        · simp only [isFr] at h
          rw [decide_eq_false (by omega), Bool.false_and] at h
          exact h
  · have e : isFr x = false := by
      cases x with
      | tup xs =>
        match xs with
        | [] => rfl
        | [_] => simp [isFr]
        | [y, z] => exact absurd ⟨y, z, rfl⟩ hy
        | _ :: _ :: _ :: _ => simp [isFr]
      | _ => rfl
    rw [e] at h
    cases x with
    | tup xs =>
      have hn : ((xs.length : Int) = 2) = False := eq_false fun z => by
        match xs with
        | [] => simp at z
        | [_] => simp at z
        | [y, z] => exact hy ⟨y, z, rfl⟩
        | _ :: _ :: _ :: _ => simp at z; omega
      walk_at "ab"
      simp only [hn]
      walk_at "ab"
      exact .inl h
    | _ => walk_at "ab"; exact .inl h
end K00
set_option Elab.async false
set_option linter.all false
set_option maxRecDepth 100000
set_option autoImplicit false
namespace K00
open PySem Ab
local macro_rules | `(tactic| walk_at "ab") => `(tactic| simp [-Bool.exists_bool, -Bool.forall_bool, ↓exB, ↓iteB, aSeq, aAsg, aPar, aCB, aCons, aNil, aVar, aC, gName, aIfS, aTest, aNot, aAnd, aOr, aAndV, aOrV, aNotV, aIf, aOp, aUn, aRet, aTup, aLst, bodyK, Ab.start, List.replicate, aNext, aCall, aCallK, pick, aRaise, aRaise0, qD, gSub, gTup, gNil, gCons, aExpr, aBM, aDk0, aLC, aSeqI, aRange1, aRange2, aFor, aYes, wipeD, Tg.put, eqA_int, eqA_bl, eqA_nil, ix_tup, ix_lst, ix_scr, ix_ref, at_0, at_1, at_2, at_3, add_int, add_tup, add_str, add_lst, add_refl, mul_int, sub_int, fdiv_int, mod_int, pow_int, lt_int, le_int, gt_int, ge_int, neg_int, abs_int, gcd_int, max2_int, min2_int, int_int, int_bl, str_int, is_non, is_bl, isNonD, isi_ty, in_int, in_bool, in_str, in_tuple, in_list, in_dict, isiB, ty_non, ty_bl, ty_int, ty_str, ty_tup, ty_lst, ty_dk, ty_scr, len_tup, len_lst, len_scr, len_ref, len_dk, len_str, new_f, new_t, set_ref, app_ref, ext_ref, ty_ref, src_tup, src_lst, src_scr, ex2, ex2n, ex3])
theorem ty_b {st : Store} {x : D} {T : String} (h : tyName st x = some T) : (T == "int") = isI x := by
  by_cases hT : T = "int"
  · obtain ⟨i, e⟩ := ty_i h hT
    subst e hT
    rfl
  · rw [show (T == "int") = false by simpa using hT]
    cases x with
    | int i => rw [ty_int] at h; cases h; exact absurd rfl hT
    | _ => rfl
theorem p_law_is_fraction : ∀ ds st0 QA EA, ds.length = 1 → asp_is_fr ds st0 QA EA → t_law_is_fraction asp_is_int asp_gcd (bodyK st0 QA EA) ⟨Ab.start 1 ds, st0⟩ := by
  intro ds st0 QA EA hl ⟨x, e, ⟨⟨T, hT⟩, hx⟩, h⟩
  subst e
  unfold t_law_is_fraction
  by_cases ht : T = "tuple"
  · subst ht
    obtain ⟨xs, e⟩ := ty_tuple hT
    subst e
    obtain ⟨hz, hy⟩ := hx _ rfl
    by_cases hn : ((xs.length : Int) = 2)
    · match xs, hn with
      | [y, z], hn =>
        clear hn
        obtain ⟨Ty, hTy⟩ := hy y (by simp)
        obtain ⟨Tz, hTz⟩ := hy z (by simp)
        walk_at "ab"
        refine ⟨y, Ty, rfl, hTy, ?_⟩
        rw [ty_b hTy]
        walk_at "ab"
        refine ⟨fun h1 => .inl ?_, fun h1 => ⟨z, Tz, rfl, hTz, ?_⟩⟩
        · have e : isFr (.tup [y, z]) = false := by
            cases y <;> cases z <;> first | rfl | (exfalso; simpa [isI] using h1)
          rw [e] at h; exact h
        · rw [ty_b hTz]
          walk_at "ab"
          refine ⟨fun h2 => .inl ?_, fun h2 => ?_⟩
          · have e : isFr (.tup [y, z]) = false := by
              cases y <;> cases z <;> first | rfl | (exfalso; simpa [isI] using h2)
            rw [e] at h; exact h
          · cases y <;> first | (cases h1; done) | skip
            cases z <;> first | (cases h2; done) | skip
            rename_i a b
            walk_at "ab"
            refine ⟨fun h3 => ⟨a, b, rfl, ?_⟩, fun h3 => .inl ?_⟩
            · walk_at "ab"
              refine .inl ?_
              simp only [isFr] at h
              rw [decide_eq_true h3, Bool.true_and] at h
              exact h
            · simp only [isFr] at h
              rw [decide_eq_false (by omega), Bool.false_and] at h
              exact h
    · have e : isFr (.tup xs) = false := by
        match xs, hn with
        | [], _ => rfl
        | [_], _ => simp [isFr]
        | [y, z], hn => exact absurd rfl hn
        | _ :: _ :: _ :: _, _ => simp [isFr]
      rw [e] at h
      walk_at "ab"
      refine ⟨fun _ => .inl h, fun z => absurd z hn⟩
  · have e : isFr x = false := by
      cases x with
      | tup xs => rw [ty_tup] at hT; cases hT; exact absurd rfl ht
      | _ => rfl
    rw [e] at h
    walk_at "ab"
    refine ⟨T, hT, fun _ => .inl h, fun z => absurd z ht⟩
/-- C: InvalidNumber -/
def asp_fraction (C : Addr) : ASp := fun ds st QA EA => ∃ x y, ds = [x, y] ∧ (∃ T, tyName st x = some T) ∧ (∃ T, tyName st y = some T) ∧
  (isI x = false → EA ⟨.ref C, [("given", x)]⟩ st) ∧ (∀ a, x = .int a → (isI y = false → EA ⟨.ref C, [("given", y)]⟩ st) ∧ ∀ b, y = .int b → (b = 0 → EA ⟨.ref C, [("given", y)]⟩ st) ∧ (b ≠ 0 → Sm 4000 b ∧ QA (qD (Rat.divInt a b)) st))
theorem p_fraction {C : Addr} : ∀ ds st0 QA EA, ds.length = 2 → asp_fraction C ds st0 QA EA → t_fraction asp_is_int C asp_lowest (bodyK st0 QA EA) ⟨Ab.start 2 ds, st0⟩ := by
  intro ds st0 QA EA hl ⟨x, y, e, ⟨T, hT⟩, ⟨U, hU⟩, h1, h2⟩
  subst e
  unfold t_fraction
  walk_at "ab"
  refine ⟨x, T, rfl, hT, ?_⟩
  rw [ty_b hT]
  walk_at "ab"
  refine ⟨fun h3 => .inl (h1 h3), fun h3 => ⟨y, U, rfl, hU, ?_⟩⟩
  cases x <;> first | (cases h3; done) | skip
  rename_i a
  obtain ⟨h4, h5⟩ := h2 a rfl
  rw [ty_b hU]
  walk_at "ab"
  refine ⟨fun h6 => .inl (h4 h6), fun h6 => ?_⟩
  cases y <;> first | (cases h6; done) | skip
  rename_i b
  obtain ⟨h7, h8⟩ := h5 b rfl
  walk_at "ab"
  refine ⟨fun h9 => .inl (h7 h9), fun h9 => ⟨a, b, rfl, h9, (h8 h9).1, .inl (h8 h9).2⟩⟩
/-! ### what a call says: told, refused -/
def saidD (w : String) (x : D) : D := .lst [.str w, x]
theorem imp_fraction {C : Addr} {ds : List D} {st : Store} {Q1 Q2 : D → Store → Prop} {E1 E2 : XD → Store → Prop} (h : asp_fraction C ds st Q1 E1) (hq : ∀ d, Q1 d st → Q2 d st) (he : ∀ e, E1 e st → E2 e st) : asp_fraction C ds st Q2 E2 := by
  obtain ⟨x, y, e, h1, h2, h3, h4⟩ := h
  exact ⟨x, y, e, h1, h2, fun z => he _ (h3 z), fun a ha => ⟨fun z => he _ ((h4 a ha).1 z), fun b hb => ⟨fun z => he _ (((h4 a ha).2 b hb).1 z), fun z => ⟨(((h4 a ha).2 b hb).2 z).1, hq _ (((h4 a ha).2 b hb).2 z).2⟩⟩⟩⟩
theorem imp_divide {C : Addr} {ds : List D} {st : Store} {Q1 Q2 : D → Store → Prop} {E1 E2 : XD → Store → Prop} (h : asp_divide C ds st Q1 E1) (hq : ∀ d, Q1 d st → Q2 d st) (he : ∀ e, E1 e st → E2 e st) : asp_divide C ds st Q2 E2 := by
  obtain ⟨p, q, e, h1, h2, h3, h4⟩ := h
  exact ⟨p, q, e, h1, h2, fun z => he _ (h3 z), fun z => hq _ (h4 z)⟩
/-- C: InvalidNumber, C0: DividedByZero -/
def asp_said (C C0 : Addr) : ASp := fun ds st QA EA => ∃ (i : Int) (x y : D), ds = [.int i, x, y] ∧ ((0 ≤ i ∧ i < 2 ∧ asp_fraction C [x, y] st (fun d _ => QA (saidD "told" d) st) (fun e _ => ∃ v, e = ⟨.ref C, [("given", v)]⟩ ∧ QA (saidD "number" v) st)) ∨
  (2 ≤ i ∧ i < 4 ∧ asp_divide C0 [x, y] st (fun d _ => QA (saidD "told" d) st) (fun e _ => e = ⟨.ref C0, []⟩ ∧ QA (.lst [.str "zero"]) st)))
theorem p_said {C C0 : Addr} {m : Value → Value → Option Bool} (m1 : m (.ref C) (.ref C) = some true) (m2 : m (.ref C0) (.ref C) = some false) (m3 : m (.ref C0) (.ref C0) = some true) :
    ∀ ds st0 QA EA, ds.length = 3 → asp_said C C0 ds st0 QA EA → t_law_said (asp_fraction C) (asp_divide C0) C C0 m (bodyK st0 QA EA) ⟨Ab.start 4 ds, st0⟩ := by
  intro ds st0 QA EA hl ⟨i, x, y, e, h⟩
  subst e
  unfold t_law_said aTry
  walk_at "ab"
  have sz1 : 1 ≤ sizeLine := by decide
  refine ⟨fun hi => ?_, fun hi => ⟨fun hj => ?_, fun hj => ?_⟩⟩
  · rcases h with ⟨_, _, h⟩ | ⟨z, _, h⟩
    · refine imp_fraction h (fun d q => ⟨sz2, .inl q⟩) fun e ⟨v, he, q⟩ => ?_
      subst he
      refine ⟨true, m1, fun _ a dd hd => ?_, fun z => by cases z⟩
      simp only [suiteA, aXf, offK]
      walk_at "ab"
      exact ⟨_, rfl, _, v, rfl, rfl, by simp [List.lookup], sz2, .inl q⟩
    · omega
  · rcases h with ⟨_, _, h⟩ | ⟨z, _, h⟩
    · refine imp_fraction h (fun d q => ⟨sz2, .inl q⟩) fun e ⟨v, he, q⟩ => ?_
      subst he
      refine ⟨true, m1, fun _ a dd hd => ?_, fun z => by cases z⟩
      simp only [suiteA, aXf, offK]
      walk_at "ab"
      exact ⟨_, rfl, _, v, rfl, rfl, by simp [List.lookup], sz2, .inl q⟩
    · omega
  · rcases h with ⟨_, z, h⟩ | ⟨_, _, h⟩
    · omega
    · refine imp_divide h (fun d q => ⟨sz2, .inl q⟩) fun e ⟨he, q⟩ => ?_
      subst he
      refine ⟨false, m2, fun z => by (cases z), fun _ => ⟨true, m3, fun _ a dd hd => ?_, fun z => by cases z⟩⟩
      simp only [suiteA, aXf, offK]
      walk_at "ab"
      exact ⟨sz1, .inl q⟩
/-! ### the same -/
mutual
/-- values that the law compares: of depth at most k -/
inductive Good : Nat → D → Prop
  | non {k : Nat} : Good (k + 1) .non
  | bl {k : Nat} (b : Bool) : Good (k + 1) (.bl b)
  | int {k : Nat} (i : Int) : Good (k + 1) (.int i)
  | str {k : Nat} (s : Str) : s.length ≤ 1000 → PyData.strOk s = true → Good (k + 1) (.str s)
  | dk {k : Nat} : Good (k + 1) (.dk [])
  | tup {k : Nat} {xs : List D} : xs.length ≤ 1000 → GoodAll k xs → Good (k + 1) (.tup xs)
  | lst {k : Nat} {xs : List D} : xs.length ≤ 1000 → GoodAll k xs → Good (k + 1) (.lst xs)
inductive GoodAll : Nat → List D → Prop
  | nil {k : Nat} : GoodAll k []
  | cons {k : Nat} {x : D} {xs : List D} : Good k x → GoodAll k xs → GoodAll k (x :: xs)
end
theorem GoodAll.mem {k : Nat} : ∀ {xs : List D}, GoodAll k xs → ∀ x ∈ xs, Good k x
  | _, .nil, _, h => by cases h
  | _, .cons g r, x, h => by
    rcases List.mem_cons.mp h with e | h
    · rw [e]; exact g
    · exact r.mem x h
def asp_same (k : Nat) : ASp := fun ds st QA _ => ∃ x, ds = [x, x] ∧ Good k x ∧ QA (.bl true) st
theorem same_step {k : Nat} {xs : List D} {i : Nat} {d : D} (ha : GoodAll k xs) (hi : i < xs.length) : Good k (xs[i]'hi) := ha.mem _ (List.getElem_mem hi)
theorem filt0 {l : List D} : l.filter (fun _ => false) = [] := by induction l <;> simp [*]
theorem p_same (k : Nat) : ∀ ds st0 QA EA, ds.length = 2 → asp_same (k + 1) ds st0 QA EA → t_law_same (asp_same k) (bodyK st0 QA EA) ⟨Ab.start 3 ds, st0⟩ := by
  intro ds st0 QA EA hl ⟨x, e, g, h⟩
  subst e
  unfold t_law_same
  cases g with
  | non => walk_at "ab"; exact .inl h
  | bl b => walk_at "ab"; exact .inl h
  | int i => walk_at "ab"; exact .inl h
  | str s hs ho =>
    have hz : s.length ≤ sizeLine := Nat.le_trans hs (by decide)
    walk_at "ab"
    refine ⟨hz, by omega, compL_ok (p := fun _ => false) (g := id) _ [] (fun d hd => ?_) (by rw [rg_len]; simpa using hz) ?_⟩
    · obtain ⟨i, hi, e⟩ := rg_mem hd
      rw [Int.zero_add] at e
      subst e
      refine ⟨_, rfl, fun A B hA hB => ?_⟩
      walk_at "ab"
      simp only [aSl, aPart, sl_str, ix_str, str_at hi, cutS_one hi]
      walk_at "ab"
      simp only [sl_str, ix_str, str_at hi, cutS_one hi]
      walk_at "ab"
      rw [eqA_str (strOk_at hi ho) (strOk_at hi ho)]
      walk_at "ab"
      exact ⟨hz, hB rfl⟩
    · rw [filt0]
      walk_at "ab"; exact .inl h
  | dk =>
    walk_at "ab"
    show compL _ _ _ _ _ _ [] [] _
    simp only [compL]
    walk_at "ab"; exact .inl h
  | tup hs ha =>
    rename_i xs
    have hz : xs.length ≤ sizeLine := Nat.le_trans hs (by decide)
    walk_at "ab"
    refine ⟨by omega, compL_ok (p := fun _ => false) (g := id) _ [] (fun d hd => ?_) (by rw [rg_len]; simpa using hz) ?_⟩
    · obtain ⟨i, hi, e⟩ := rg_mem hd
      rw [Int.zero_add] at e
      subst e
      refine ⟨_, rfl, fun A B hA hB => ?_⟩
      walk_at "ab"
      simp only [at_nat, List.getElem?_eq_getElem hi]
      walk_at "ab"
      refine ⟨_, rfl, ha.mem _ (List.getElem_mem hi), ?_⟩
      walk_at "ab"
      exact hB rfl
    · rw [filt0]
      walk_at "ab"; exact .inl h
  | lst hs ha =>
    rename_i xs
    have hz : xs.length ≤ sizeLine := Nat.le_trans hs (by decide)
    walk_at "ab"
    refine ⟨by omega, compL_ok (p := fun _ => false) (g := id) _ [] (fun d hd => ?_) (by rw [rg_len]; simpa using hz) ?_⟩
    · obtain ⟨i, hi, e⟩ := rg_mem hd
      rw [Int.zero_add] at e
      subst e
      refine ⟨_, rfl, fun A B hA hB => ?_⟩
      walk_at "ab"
      simp only [at_nat, List.getElem?_eq_getElem hi]
      walk_at "ab"
      refine ⟨_, rfl, ha.mem _ (List.getElem_mem hi), ?_⟩
      walk_at "ab"
      exact hB rfl
    · rw [filt0]
      walk_at "ab"; exact .inl h
end K00
set_option Elab.async false
set_option linter.all false
set_option maxRecDepth 100000
set_option autoImplicit false
namespace K00
open PySem Ab
local macro_rules | `(tactic| walk_at "ab") => `(tactic| simp [-Bool.exists_bool, -Bool.forall_bool, ↓exB, ↓iteB, aSeq, aAsg, aPar, aCB, aCons, aNil, aVar, aC, gName, aIfS, aTest, aNot, aAnd, aOr, aAndV, aOrV, aNotV, aIf, aOp, aUn, aRet, aTup, aLst, bodyK, Ab.start, List.replicate, aNext, aCall, aCallK, pick, aRaise, aRaise0, qD, gSub, gTup, gNil, gCons, aExpr, aBM, aDk0, aLC, aSeqI, aSl, aPart, aNoPart, aRange1, aRange2, aFor, aYes, wipeD, Tg.put, eqA_int, eqA_bl, eqA_nil, ix_tup, ix_lst, ix_scr, ix_ref, at_0, at_1, at_2, at_3, add_int, add_tup, add_str, add_lst, add_refl, mul_int, sub_int, fdiv_int, mod_int, pow_int, lt_int, le_int, gt_int, ge_int, neg_int, abs_int, gcd_int, max2_int, min2_int, int_int, int_bl, str_int, is_non, is_bl, isNonD, isi_ty, in_int, in_bool, in_str, in_tuple, in_list, in_dict, isiB, ty_non, ty_bl, ty_int, ty_str, ty_tup, ty_lst, ty_dk, ty_scr, len_tup, len_lst, len_scr, len_ref, len_dk, len_str, sl_tup, sl_lst, sl_scr, new_f, new_t, set_ref, app_ref, ext_ref, ty_ref, src_tup, src_lst, src_scr, ex2, ex2n, ex3])
local macro_rules | `(tactic| walk_at "abs") => `(tactic| simp [*, L2.ixN, -Bool.exists_bool, -Bool.forall_bool, ↓exB, ↓iteB, aSeq, aAsg, aPar, aCB, aCons, aNil, aVar, aC, gName, aIfS, aTest, aNot, aAnd, aOr, aAndV, aOrV, aNotV, aIf, aOp, aUn, aRet, aTup, aLst, bodyK, Ab.start, List.replicate, aNext, aCall, aCallK, pick, aRaise, aRaise0, qD, gSub, gTup, gNil, gCons, aExpr, aBM, aDk0, aLC, aSeqI, aSl, aPart, aNoPart, aRange1, aRange2, aFor, aYes, wipeD, Tg.put, eqA_int, eqA_bl, eqA_nil, ix_tup, ix_lst, ix_scr, ix_ref, at_0, at_1, at_2, at_3, add_int, add_tup, add_str, add_lst, add_refl, mul_int, sub_int, fdiv_int, mod_int, pow_int, lt_int, le_int, gt_int, ge_int, neg_int, abs_int, gcd_int, max2_int, min2_int, int_int, int_bl, str_int, is_non, is_bl, isNonD, isi_ty, in_int, in_bool, in_str, in_tuple, in_list, in_dict, isiB, ty_non, ty_bl, ty_int, ty_str, ty_tup, ty_lst, ty_dk, ty_scr, len_tup, len_lst, len_scr, len_ref, len_dk, len_str, sl_tup, sl_lst, sl_scr, new_f, new_t, set_ref, app_ref, ext_ref, ty_ref, src_tup, src_lst, src_scr, ex2, ex2n, ex3])
/-- a box of draws -/
def bx (a : Int) (b : Bool) (c d : Int) : SO := .lst [.int a, .bl b, .int c, .int d]
def BoxAt (st : Store) (n : Nat) (N : Int) : Prop := ∃ a b c d, st[n]? = some (bx a b c d) ∧ 0 ≤ a ∧ 0 ≤ c ∧ c < 2 ^ 31 ∧ 0 ≤ d ∧ d ≤ N
/-- st' is st with another box at n -/
def BoxTo (st : Store) (n : Nat) (N : Int) (st' : Store) : Prop := ∃ a b c d, st' = st.set n (bx a b c d) ∧ 0 ≤ a ∧ 0 ≤ c ∧ c < 2 ^ 31 ∧ 0 ≤ d ∧ d ≤ N
theorem BoxAt.lt {st : Store} {n : Nat} {N : Int} (h : BoxAt st n N) : n < st.length := by
  obtain ⟨a, b, c, d, e, _⟩ := h
  exact (List.getElem?_eq_some_iff.mp e).1
theorem BoxTo.at {st st' : Store} {n : Nat} {N : Int} (h : BoxTo st n N st') (hn : n < st.length) : BoxAt st' n N := by
  obtain ⟨a, b, c, d, e, h⟩ := h
  exact ⟨a, b, c, d, by rw [e, List.getElem?_set_self hn], h⟩
theorem BoxTo.trans {st st1 st2 : Store} {n : Nat} {N M : Int} (h : BoxTo st n N st1) (g : BoxTo st1 n M st2) : BoxTo st n M st2 := by
  obtain ⟨a, b, c, d, e, h⟩ := h
  obtain ⟨a', b', c', d', e', g⟩ := g
  exact ⟨a', b', c', d', by rw [e', e, List.set_set], g⟩
theorem BoxTo.len {st st' : Store} {n : Nat} {N : Int} (h : BoxTo st n N st') : st'.length = st.length := by
  obtain ⟨a, b, c, d, e, h⟩ := h
  rw [e, List.length_set]
def asp_take : ASp := fun ds st QA _ => ∃ n m N, ds = [.ref n, .int m] ∧ BoxAt st n N ∧ N ≤ 2 ^ 40 ∧ 0 < m ∧ m < 2 ^ 40 ∧ ∀ r st', 0 ≤ r → r < m → BoxTo st n (N + 1) st' → QA (.int r) st'
theorem powOk {i j : Int} {b : Nat} (h : Sm b i) (h0 : 0 ≤ j) (hb : (b : Int) * j ≤ 2 ^ 27) : PowOk i j := by
  refine ⟨h0, Int.le_trans (Int.mul_le_mul_of_nonneg_right ?_ h0) hb⟩
  have := h.bits
  omega
theorem sm_lt {i : Int} {b : Nat} (h0 : 0 ≤ i) (h : i < 2 ^ b) : Sm b i := by
  unfold Sm
  have : ((2 ^ b : Nat) : Int) = 2 ^ b := by norm_cast
  omega
theorem fm {i j : Int} (hj : 0 < j) : 0 ≤ i.fmod j ∧ i.fmod j < j := ⟨Int.fmod_nonneg_of_pos i hj, Int.fmod_lt_of_pos i hj⟩
theorem p_law_take : ∀ ds st0 QA EA, ds.length = 2 → asp_take ds st0 QA EA → t_law_take (bodyK st0 QA EA) ⟨Ab.start 4 ds, st0⟩ := by
  intro ds st0 QA EA hl ⟨n, m, N, e, ⟨a, b, c, d, hb, ha, hc, hc2, hd, hd2⟩, hN, hm, hm2, h⟩
  subst e
  have hn := (List.getElem?_eq_some_iff.mp hb).1
  have hs : ∀ x, (st0.set n x)[n]? = some x := fun x => List.getElem?_set_self hn
  have hm0 : ¬ m = 0 := by omega
  have left : 0 < a → DivOk a m ∧ RetQ st0 QA (D.int (a.fmod m)) (List.set st0 n (SO.lst [D.int (a.fdiv m), D.bl b, D.int c, D.int d])) := fun h0 => by
    obtain ⟨f1, f2⟩ := fm (i := a) hm
    exact ⟨divOk hm0 (sm_lt (b := 4000) (by omega) (Int.lt_of_lt_of_le hm2 (by decide))), .inl (h _ _ f1 f2 ⟨a.fdiv m, b, c, d, rfl, Int.fdiv_nonneg ha (by omega), hc, hc2, hd, by omega⟩)⟩
  have right : ∀ X Y v W, X = c + 15485863 * (d + 1) + 179424673 → v = (X ^ 5).fmod 2147483647 → Y = v * 48271 + 104729 * (d + 1) → W = (Y ^ 3).fmod 2147483587 →
      Ab.MulOk 15485863 (d + 1) ∧ PowOk X 5 ∧ Ab.MulOk v 48271 ∧ Ab.MulOk 104729 (d + 1) ∧ PowOk Y 3 ∧ DivOk W 64 ∧ ¬m = 0 ∧ RetQ st0 QA (D.int ((W.fdiv 64).fmod m)) (List.set st0 n (SO.lst [D.int a, D.bl b, D.int c, D.int (d + 1)])) := fun X Y v W hX hv hY hW => by
    have hv' := fm (i := X ^ 5) (j := 2147483647) (by decide)
    rw [← hv] at hv'
    have hW' := fm (i := Y ^ 3) (j := 2147483587) (by decide)
    rw [← hW] at hW'
    have hX1 : 0 ≤ X ∧ X < 2 ^ 70 := by omega
    have hY1 : 0 ≤ Y ∧ Y < 2 ^ 70 := by omega
    have sd : Sm 4000 (d + 1) := (sm_lt (b := 50) (by omega) (by omega)).mono (by decide)
    obtain ⟨f1, f2⟩ := fm (i := W.fdiv 64) hm
    exact ⟨mulOk ((sm_lt (b := 50) (by decide) (by decide)).mono (by decide)) sd, powOk (sm_lt (b := 70) hX1.1 hX1.2) (by decide) (by decide), mulOk ((sm_lt (b := 50) hv'.1 (by omega)).mono (by decide)) ((sm_lt (b := 50) (by decide) (by decide)).mono (by decide)),
      mulOk ((sm_lt (b := 50) (by decide) (by decide)).mono (by decide)) sd, powOk (sm_lt (b := 70) hY1.1 hY1.2) (by decide) (by decide), divOk (by decide) ((sm_lt (b := 50) (by decide) (by decide)).mono (by decide)), hm0,
      .inl (h _ _ f1 f2 ⟨a, b, c, d + 1, rfl, ha, hc, hc2, by omega, by omega⟩)⟩
  unfold t_law_take
  unfold bx at hb
  clear h hn
  have R := right _ _ _ _ rfl rfl rfl rfl
  clear right
  walk_at "abs"
  exact fun _ h0 => left h0
def asp_box : ASp := fun ds st QA _ => ∃ g, ds = [.int g] ∧ ∀ a b c, 0 ≤ a → 0 ≤ c → c < 2 ^ 31 → QA (.ref st.length) (st ++ [bx a b c 0])
theorem p_law_box : ∀ ds st0 QA EA, ds.length = 1 → asp_box ds st0 QA EA → t_law_box (bodyK st0 QA EA) ⟨Ab.start 1 ds, st0⟩ := by
  intro ds st0 QA EA hl ⟨g, e, h⟩
  subst e
  unfold t_law_box
  have h4 : 4 ≤ sizeLine := by decide
  obtain ⟨f1, f2⟩ := fm (i := (g.natAbs : Int)) (j := 2147483629) (by decide)
  have hp : PowOk 10 18 := powOk (sm_lt (b := 70) (by decide) (by decide)) (by decide) (by decide)
  have H := h (g.natAbs : Int) (decide (1000000000000000000 ≤ (g.natAbs : Int))) _ (by omega) f1 (by omega)
  clear h
  walk_at "ab"
  exact ⟨hp, h4, .inl H⟩
def asp_cell : ASp := fun ds st QA _ => ∃ ns k, ds = [.scr ns, .int k] ∧ 0 ≤ k ∧ k < 2 ^ 40 ∧ ∀ g, QA (.int g) st
theorem p_law_cell : ∀ ds st0 QA EA, ds.length = 2 → asp_cell ds st0 QA EA → t_law_cell (bodyK st0 QA EA) ⟨Ab.start 2 ds, st0⟩ := by
  intro ds st0 QA EA hl ⟨ns, k, e, hk, hk2, h⟩
  subst e
  unfold t_law_cell
  walk_at "ab"
  refine ⟨fun h1 => ?_, fun h1 => ⟨mulOk ((sm_lt (b := 50) (by decide) (by decide)).mono (by decide)) ((sm_lt (b := 50) hk (by omega)).mono (by decide)), ?_⟩⟩
  · obtain ⟨i, rfl⟩ := Int.eq_ofNat_of_zero_le hk
    have hi : i < ns.length := by omega
    exact ⟨.int ns[i], by rw [at_nat]; simp [hi], .inl (h _)⟩
  · rw [cut_map, sum_lst]
    walk_at "ab"
    exact .inl (h _)
/-- of at most six digits -/
def Six (p : Rat) : Prop := p.num.natAbs < 1000000 ∧ p.den < 1000000
theorem Six.sm {p : Rat} (h : Six p) : SmQ 20 p := by
  unfold SmQ Sm
  have := h.1; have := h.2
  rw [Int.natAbs_natCast]
  constructor <;> omega
theorem le_divInt {i j : Int} (hj : j ≠ 0) : (Rat.divInt i j).num.natAbs ≤ i.natAbs ∧ (Rat.divInt i j).den ≤ j.natAbs := by
  rw [Rat.num_divInt, Rat.den_divInt, if_neg hj]
  constructor
  · rw [Int.natAbs_ediv_of_dvd (Int.dvd_mul_of_dvd_right (Int.gcd_dvd_right ..)), Int.natAbs_mul, Int.natAbs_sign_of_ne_zero hj, Nat.one_mul]
    exact Nat.div_le_self _ _
  · exact Nat.div_le_self _ _
theorem six_divInt {i j : Int} (hj : j ≠ 0) (hi : i.natAbs < 1000000) (hj2 : j.natAbs < 1000000) : Six (Rat.divInt i j) := by
  have := le_divInt (i := i) hj
  exact ⟨by omega, by omega⟩
theorem BoxTo.mono {st st' : Store} {n : Nat} {N M : Int} (h : BoxTo st n N st') (hm : N ≤ M) : BoxTo st n M st' := by
  obtain ⟨a, b, c, d, e, h1, h2, h3, h4, h5⟩ := h
  exact ⟨a, b, c, d, e, h1, h2, h3, h4, by omega⟩
def asp_fr : ASp := fun ds st QA _ => ∃ n N, ds = [.ref n] ∧ BoxAt st n N ∧ N ≤ 2 ^ 30 ∧ ∀ p st', Six p → BoxTo st n (N + 3) st' → QA (qD p) st'
theorem q_int (k : Int) : D.tup [.int k, .int 1] = qD (k : Rat) := by unfold qD; rw [Rat.num_intCast, Rat.den_intCast]; rfl
theorem p_law_fraction : ∀ ds st0 QA EA, ds.length = 1 → asp_fr ds st0 QA EA → t_law_fraction asp_take asp_low (bodyK st0 QA EA) ⟨Ab.start 2 ds, st0⟩ := by
  intro ds st0 QA EA hl ⟨n, N, e, hb, hN, h⟩
  subst e
  have hn := hb.lt
  unfold t_law_fraction
  walk_at "ab"
  refine ⟨n, 6, N, rfl, hb, by omega, by decide, by decide, fun r st1 r0 r1 b1 => ?_⟩
  have hb1 := b1.at hn
  walk_at "ab"
  refine ⟨fun hr => ?_, fun hr => ⟨fun hr2 => ?_, fun hr2 => ?_⟩⟩
  · refine ⟨n, 5, N + 1, rfl, hb1, by omega, by decide, by decide, fun k st2 k0 k1 b2 => ?_⟩
    walk_at "ab"
    rw [q_int]
    exact ⟨sz2, .inl (h _ _ ⟨by rw [Rat.num_intCast]; omega, by rw [Rat.den_intCast]; decide⟩ ((b1.trans b2).mono (by omega)))⟩
  · refine ⟨n, 1999999, N + 1, rfl, hb1, by omega, by decide, by decide, fun k st2 k0 k1 b2 => ?_⟩
    have hb2 := b2.at (by rw [b1.len]; exact hn)
    walk_at "ab"
    refine ⟨n, 999999, N + 1 + 1, rfl, hb2, by omega, by decide, by decide, fun j st3 j0 j1 b3 => ?_⟩
    walk_at "ab"
    refine ⟨_, _, rfl, by omega, (sm_lt (b := 50) (by omega) (by omega)).mono (by decide), .inl (h _ _ (six_divInt (by omega) (by omega) (by omega)) (((b1.trans b2).trans b3).mono (by omega)))⟩
  · refine ⟨n, 25, N + 1, rfl, hb1, by omega, by decide, by decide, fun k st2 k0 k1 b2 => ?_⟩
    have hb2 := b2.at (by rw [b1.len]; exact hn)
    walk_at "ab"
    refine ⟨n, 12, N + 1 + 1, rfl, hb2, by omega, by decide, by decide, fun j st3 j0 j1 b3 => ?_⟩
    walk_at "ab"
    refine ⟨_, _, rfl, by omega, (sm_lt (b := 50) (by omega) (by omega)).mono (by decide), .inl (h _ _ (six_divInt (by omega) (by omega) (by omega)) (((b1.trans b2).trans b3).mono (by omega)))⟩
/-! ### near values -/
def tyB : D → Bool
  | .tup xs => decide (xs.length ≤ 1000) && xs.all plainB
  | x => plainB x
theorem tyB_ok {st : Store} {x : D} (h : tyB x = true) : TyOk st x := by
  cases x with
  | tup xs =>
    simp only [tyB, Bool.and_eq_true, decide_eq_true_eq] at h
    refine ⟨⟨_, rfl⟩, fun ys e => ?_⟩
    cases e
    exact ⟨Nat.le_trans h.1 (by decide), fun y hy => plainB_ty (List.all_eq_true.mp h.2 y hy)⟩
  | _ => exact ⟨plainB_ty h, fun ys e => by cases e⟩
def asp_near : ASp := fun ds st QA _ => ∃ p, ds = [qD p] ∧ Six p ∧ ∀ rows, rows.length ≤ 100 → rows.all tyB = true → noRefs rows = true → QA (.lst rows) st
theorem p_law_near : ∀ ds st0 QA EA, ds.length = 1 → asp_near ds st0 QA EA → t_law_near (bodyK st0 QA EA) ⟨Ab.start 4 ds, st0⟩ := by
  intro ds st0 QA EA hl ⟨p, e, hp, h⟩
  subst e
  unfold t_law_near
  have sz : ∀ i : Nat, i ≤ 100 → i ≤ sizeLine := fun i hi => Nat.le_trans hi (by decide)
  have two : ∀ i : Int, 0 ≤ i → i < 10 → ∀ j, Sm 20 j → Ab.MulOk i j := fun i h0 h1 j hj => mulOk ((sm_lt (b := 50) h0 (by omega)).mono (by decide)) (hj.mono (by decide))
  obtain ⟨sn, sd⟩ := hp.sm
  have m1 := two 2 (by decide) (by decide) _ sn
  have m2 := two 2 (by decide) (by decide) _ sd
  have m3 := two 3 (by decide) (by decide) _ sn
  have m4 := two 3 (by decide) (by decide) _ sd
  have lg : p.num.natAbs.log2 < 1920 := by
    by_cases h0 : p.num.natAbs = 0
    · rw [h0]; decide
    · exact (Nat.log2_lt h0).mpr (Nat.lt_trans sn (by decide))
  have h2 : ∀ rows a, noRefs a = true → a.length ≤ 100 → a.all tyB = true → RetQ st0 QA (.lst a) (st0 ++ [SO.lst rows]) := fun rows a b c d => ret_cut (by simpa only [noRef] using b) (h a c d b)
  clear h two
  walk_at "ab"
  refine ⟨sz _ (by decide), m1, m2, sz _ (by decide), m3, m4, sz _ (by decide), sz _ (by decide), sz _ (by decide), sz _ (by decide), lg, sz _ (by decide), lg, sz _ (by decide), sz _ (by decide), sz _ (by decide), sz _ (by decide), sz _ (by decide), sz _ (by decide), ?_⟩
  exact h2 _ _ rfl (Nat.le_of_ble_eq_true rfl) rfl
end K00
set_option Elab.async false
set_option linter.all false
set_option maxRecDepth 100000
set_option autoImplicit false
namespace K00
open PySem Ab
local macro_rules | `(tactic| walk_at "ab") => `(tactic| simp [-Bool.exists_bool, -Bool.forall_bool, ↓exB, ↓iteB, aSeq, aAsg, aPar, aCB, aCons, aNil, aVar, aC, gName, aIfS, aTest, aNot, aAnd, aOr, aAndV, aOrV, aNotV, aIf, aOp, aUn, aRet, aTup, aLst, bodyK, Ab.start, List.replicate, aNext, aCall, aCallK, pick, aRaise, aRaise0, qD, gSub, gTup, gNil, gCons, aExpr, aBM, aDk0, aLC, aSeqI, aSl, aPart, aNoPart, aRange1, aRange2, aFor, aYes, wipeD, Tg.put, eqA_int, eqA_bl, eqA_nil, ix_tup, ix_lst, ix_scr, ix_ref, at_0, at_1, at_2, at_3, add_int, add_tup, add_str, add_lst, add_refl, mul_int, sub_int, fdiv_int, mod_int, pow_int, lt_int, le_int, gt_int, ge_int, neg_int, abs_int, gcd_int, max2_int, min2_int, int_int, int_bl, str_int, is_non, is_bl, isNonD, isi_ty, in_int, in_bool, in_str, in_tuple, in_list, in_dict, isiB, ty_non, ty_bl, ty_int, ty_str, ty_tup, ty_lst, ty_dk, ty_scr, len_tup, len_lst, len_scr, len_ref, len_dk, len_str, sl_tup, sl_lst, sl_scr, new_f, new_t, set_ref, app_ref, ext_ref, ty_ref, src_tup, src_lst, src_scr, ex2, ex2n, ex3])
mutual
def goodB : Nat → D → Bool
  | 0, _ => false
  | k + 1, d => match d with
    | .non => true
    | .bl _ => true
    | .int _ => true
    | .str s => decide (s.length ≤ 1000) && PyData.strOk s
    | .dk [] => true
    | .tup xs => decide (xs.length ≤ 1000) && goodBs k xs
    | .lst xs => decide (xs.length ≤ 1000) && goodBs k xs
    | _ => false
def goodBs : Nat → List D → Bool
  | _, [] => true
  | k, x :: r => goodB k x && goodBs k r
end
mutual
theorem good_of : ∀ {k : Nat} {d : D}, goodB k d = true → Good k d
  | 0, _, h => by simp [goodB] at h
  | k + 1, d, h => by
    unfold goodB at h
    cases d with
    | non => exact .non
    | bl b => exact .bl b
    | int i => exact .int i
    | str s =>
      simp only [Bool.and_eq_true, decide_eq_true_eq] at h
      exact .str s h.1 h.2
    | dk kvs =>
      cases kvs with
      | nil => exact .dk
      | cons _ _ => simp at h
    | tup xs =>
      simp only [Bool.and_eq_true, decide_eq_true_eq] at h
      exact .tup h.1 (goods_of h.2)
    | lst xs =>
      simp only [Bool.and_eq_true, decide_eq_true_eq] at h
      exact .lst h.1 (goods_of h.2)
    | _ => simp at h
theorem goods_of : ∀ {k : Nat} {xs : List D}, goodBs k xs = true → GoodAll k xs
  | _, [], _ => .nil
  | k, x :: r, h => by
    simp only [goodBs, Bool.and_eq_true] at h
    exact .cons (good_of h.1) (goods_of h.2)
end
theorem str_told : Str.length "told" = 4 ∧ PyData.strOk "told" = true := by decide +kernel
theorem str_zero : Str.length "zero" = 4 ∧ PyData.strOk "zero" = true := by decide +kernel
theorem str_number : Str.length "number" = 6 ∧ PyData.strOk "number" = true := by decide +kernel
theorem str_one : Str.length "1" = 1 ∧ PyData.strOk "1" = true := by decide +kernel
theorem goodB_q {k : Nat} {p : Rat} : goodB (k + 2) (qD p) = true := by simp [qD, goodB, goodBs]
section
variable {p q : Rat} {st : Store} {Q : D → Store → Prop} {X : XD → Store → Prop} {x : D}
theorem qD_inj (h : qD p = qD q) : p = q := by
  simp only [qD, D.tup.injEq, List.cons.injEq, D.int.injEq, and_true] at h
  exact Rat.ext h.1 (by have := h.2; omega)
theorem ix_q0 : ixA (qD p) (.int 0) st Q = Q (.int p.num) st := by unfold qD; rw [ix_tup]; simp [at_0]
theorem ix_q1 : ixA (qD p) (.int 1) st Q = Q (.int p.den) st := by unfold qD; rw [ix_tup]; simp [at_1]
theorem two_q {R : Rat → Rat → Prop} : (∃ p' q' : Rat, [qD p, qD q] = [qD p', qD q'] ∧ R p' q') ↔ R p q := ⟨fun ⟨a, b, e, h⟩ => by
  simp only [List.cons.injEq, and_true] at e
  rw [qD_inj e.1, qD_inj e.2]; exact h, fun h => ⟨p, q, rfl, h⟩⟩
theorem run_add (hp : SmQ 1000 p) (hq : SmQ 1000 q) : asp_add [qD p, qD q] st Q X = Q (qD (p + q)) st := propext (two_q.trans ⟨fun h => h.2.2, fun h => ⟨hp, hq, h⟩⟩)
theorem run_sub (hp : SmQ 1000 p) (hq : SmQ 1000 q) : asp_sub [qD p, qD q] st Q X = Q (qD (p - q)) st := propext (two_q.trans ⟨fun h => h.2.2, fun h => ⟨hp, hq, h⟩⟩)
theorem run_mul (hp : SmQ 1000 p) (hq : SmQ 1000 q) : asp_mul [qD p, qD q] st Q X = Q (qD (p * q)) st := propext (two_q.trans ⟨fun h => h.2.2, fun h => ⟨hp, hq, h⟩⟩)
theorem run_compare (hp : SmQ 1000 p) (hq : SmQ 1000 q) : asp_compare [qD p, qD q] st Q X = Q (.int (cmpI p q)) st := propext (two_q.trans ⟨fun h => h.2.2, fun h => ⟨hp, hq, h⟩⟩)
theorem run_below (hp : SmQ 1000 p) (hq : SmQ 1000 q) : asp_below [qD p, qD q] st Q X = Q (.bl (decide (p.num * q.den < q.num * p.den))) st := propext (two_q.trans ⟨fun h => h.2.2, fun h => ⟨hp, hq, h⟩⟩)
theorem run_fits : asp_fits [qD p] st Q X = Q (.bl (decide ((p.num.natAbs : Int) < 1000000) && decide ((p.den : Int) < 1000000))) st := propext ⟨fun ⟨a, e, h⟩ => by
  simp only [List.cons.injEq, and_true] at e
  rw [qD_inj e]; exact h, fun h => ⟨p, rfl, h⟩⟩
theorem run_div (hp : SmQ 1000 p) (hq : SmQ 1000 q) (hz : q ≠ 0) : asp_div [qD p, qD q] st Q X = Q (qD (p / q)) st := propext (two_q.trans ⟨fun h => h.2.2.2, fun h => ⟨hp, hq, hz, h⟩⟩)
theorem run_same (h : goodB 5 x = true) : asp_same 5 [x, x] st Q X = Q (.bl true) st := propext ⟨fun ⟨y, e, _, h⟩ => h, fun g => ⟨x, rfl, good_of h, g⟩⟩
end
section
variable {p q : Rat} {st : Store} {Q : D → Store → Prop} {X : XD → Store → Prop} {C C0 : Addr} {i : Int}
theorem run_divide (hp : SmQ 1000 p) (hq : SmQ 1000 q) (hz : (q = 0) = False) : asp_divide C0 [qD p, qD q] st Q X = Q (qD (p / q)) st := propext (two_q.trans ⟨fun h => h.2.2.2 (by rw [Ne, hz]; exact id), fun h => ⟨hp, hq, fun z => by rw [hz] at z; exact z.elim, fun _ => h⟩⟩)
theorem run_said_d (hp : SmQ 1000 p) (hq : SmQ 1000 q) (hz : (q = 0) = False) (h2 : 2 ≤ i) (h4 : i < 4) : asp_said C C0 [.int i, qD p, qD q] st Q X = Q (saidD "told" (qD (p / q))) st := propext ⟨fun ⟨j, x, y, e, h⟩ => by
  simp only [List.cons.injEq, D.int.injEq, and_true] at e
  obtain ⟨e1, e2, e3⟩ := e
  subst e1 e2 e3
  rcases h with ⟨_, h, _⟩ | ⟨_, _, h⟩
  · omega
  · rw [run_divide hp hq hz] at h; exact h, fun h => ⟨i, _, _, rfl, .inr ⟨h2, h4, by rw [run_divide hp hq hz]; exact h⟩⟩⟩
theorem run_said_z (hp : SmQ 1000 p) (hq : SmQ 1000 q) (hz : (q = 0) = True) (h2 : 2 ≤ i) (h4 : i < 4) : asp_said C C0 [.int i, qD p, qD q] st Q X = Q (.lst [.str "zero"]) st := propext ⟨fun ⟨j, x, y, e, h⟩ => by
  simp only [List.cons.injEq, D.int.injEq, and_true] at e
  obtain ⟨e1, e2, e3⟩ := e
  subst e1 e2 e3
  rcases h with ⟨_, h, _⟩ | ⟨_, _, h⟩
  · omega
  · exact ((two_q.mp h).2.2.1 (of_eq_true hz)).2, fun h => ⟨i, _, _, rfl, .inr ⟨h2, h4, p, q, rfl, hp, hq, fun _ => ⟨rfl, h⟩, fun z => absurd (of_eq_true hz) z⟩⟩⟩
end
local macro_rules | `(tactic| walk_at "abd") => `(tactic| simp [*, L2.ixN, -Bool.exists_bool, -Bool.forall_bool, ↓exB, ↓iteB, aSeq, aAsg, aPar, aCB, aCons, aNil, aVar, aC, gName, aIfS, aTest, aNot, aAnd, aOr, aAndV, aOrV, aNotV, aIf, aOp, aUn, aRet, aTup, aLst, bodyK, Ab.start, List.replicate, aNext, aCall, aCallK, pick, aRaise, aRaise0, gSub, gTup, gNil, gCons, aExpr, aBM, aDk0, aLC, aSeqI, aSl, aPart, aNoPart, aRange1, aRange2, aFor, aYes, wipeD, Tg.put, eqA_int, eqA_bl, eqA_nil, ix_tup, ix_lst, ix_scr, ix_ref, at_0, at_1, at_2, at_3, add_int, add_tup, add_str, add_lst, add_refl, mul_int, sub_int, fdiv_int, mod_int, pow_int, lt_int, le_int, gt_int, ge_int, neg_int, abs_int, gcd_int, max2_int, min2_int, int_int, int_bl, str_int, is_non, is_bl, isNonD, isi_ty, in_int, in_bool, in_str, in_tuple, in_list, in_dict, isiB, ty_non, ty_bl, ty_int, ty_str, ty_tup, ty_lst, ty_dk, ty_scr, len_tup, len_lst, len_scr, len_ref, len_dk, len_str, sl_tup, sl_lst, sl_scr, new_f, new_t, set_ref, app_ref, ext_ref, ty_ref, src_tup, src_lst, src_scr, ex2, ex2n, ex3, ix_q0, ix_q1, run_add, run_sub, run_mul, run_compare, run_below, run_fits, run_same, goodB, goodBs, goodB_q, cmpI, Int.neg_sub, run_said_d, run_said_z, run_divide, run_div, saidD, str_told.1, str_told.2, str_zero.1, str_zero.2, str_number.1, str_number.2, str_one.1, str_one.2])
theorem sq_add {p q : Rat} {b : Nat} (hp : SmQ b p) (hq : SmQ b q) : SmQ (b + b + 1) (p + q) := by
  rw [← q_add]
  exact sm_divInt (den2 p q) ((hp.1.mul hq.2).add (hq.1.mul hp.2)) ((hp.2.mul hq.2).mono (by omega))
theorem sq_mul {p q : Rat} {b : Nat} (hp : SmQ b p) (hq : SmQ b q) : SmQ (b + b) (p * q) := by
  rw [← q_mul]
  exact sm_divInt (den2 p q) (hp.1.mul hq.1) (hp.2.mul hq.2)
end K00
set_option Elab.async false
set_option linter.all false
set_option maxRecDepth 100000
set_option autoImplicit false
set_option maxHeartbeats 4000000
namespace K02
open PySem PySem.Spec PyProof.Rows L2 Ab K00
def t_total (asp_add : ASp) : AT := (aSeq (aAsg (aC (.tup [.int 0, .int 1])) (gName 1))
 (aSeq (aFor (aSeqI (aVar 0)) (gName 2) (aAsg (aCall 2 asp_add (aCons (aVar 1) (aCons (aVar 2) aNil))) (gName 1)))
 (aRet (aVar 1))))
def t_dot (asp_total : ASp) (asp_multiply : ASp) : AT := (aRet (aCall 1 asp_total (aCons (aLC false (aZip (aCons (aVar 0) (aCons (aVar 1) aNil))) (.tp [(.nm 2), (.nm 3)]) aYes (aCall 2 asp_multiply (aCons (aVar 2) (aCons (aVar 3) aNil))) [2, 3]) aNil)))
def t_columns_of : AT := (aRet (aLC false (aZipS (aVar 0)) (.nm 1) aYes (aCB tupleA (aCons (aVar 1) aNil)) [1]))
def t_times_matrix (asp_columns_of : ASp) (asp_dot : ASp) : AT := (aRet (aCB tupleA (aCons (aLC false (aSeqI (aCall 1 asp_columns_of (aCons (aVar 1) aNil))) (.nm 2) aYes (aCall 2 asp_dot (aCons (aVar 0) (aCons (aVar 2) aNil))) [2]) aNil)))
def t_matrix_times (asp_dot : ASp) : AT := (aRet (aCB tupleA (aCons (aLC false (aSeqI (aVar 0)) (.nm 2) aYes (aCall 2 asp_dot (aCons (aVar 2) (aCons (aVar 1) aNil))) [2]) aNil)))
def t_product (asp_columns_of : ASp) (asp_dot : ASp) : AT := (aSeq (aAsg (aCall 1 asp_columns_of (aCons (aVar 1) aNil)) (gName 2))
 (aRet (aCB tupleA (aCons (aLC false (aSeqI (aVar 0)) (.nm 3) aYes (aCB tupleA (aCons (aLC false (aSeqI (aVar 2)) (.nm 4) aYes (aCall 2 asp_dot (aCons (aVar 3) (aCons (aVar 4) aNil))) [4]) aNil)) [3]) aNil))))
def t_unit : AT := (aRet (aCB tupleA (aCons (aLC false (aRange1 (aCons (aVar 0) aNil)) (.nm 1) aYes (aCB tupleA (aCons (aLC false (aRange1 (aCons (aVar 0) aNil)) (.nm 2) aYes (aIf (aTest (aOp (eqA false) (aVar 1) (aVar 2))) (aC (.tup [.int 1, .int 1])) (aC (.tup [.int 0, .int 1]))) [2]) aNil)) [1]) aNil)))
def t_power (asp_unit : ASp) (asp_product : ASp) : AT := (aSeq (aAsg (aCall 1 asp_unit (aCons (aCB lenA (aCons (aVar 0) aNil)) aNil)) (gName 2))
 (aSeq (aFor (aRange1 (aCons (aVar 1) aNil)) (gName 3) (aAsg (aCall 2 asp_product (aCons (aVar 2) (aCons (aVar 0) aNil))) (gName 2)))
 (aRet (aVar 2))))
def t_law_sum (asp_law_add : ASp) : AT := (aSeq (aAsg (aTup (aCons (aC (.int 0)) (aCons (aC (.int 1)) aNil))) (gName 1))
 (aSeq (aFor (aSeqI (aVar 0)) (gName 2) (aAsg (aCall 2 asp_law_add (aCons (aVar 1) (aCons (aVar 2) aNil))) (gName 1)))
 (aRet (aVar 1))))
def t_law_shares (asp_law_low : ASp) : AT := (aSeq (aAsg (aCB sumA (aCons (aVar 0) aNil)) (gName 1))
 (aRet (aCB tupleA (aCons (aLC false (aSeqI (aVar 0)) (.nm 2) aYes (aCall 2 asp_law_low (aCons (aVar 2) (aCons (aVar 1) aNil))) [2]) aNil))))
def t_law_mixed (asp_law_take : ASp) : AT := (aSeq (aPar 2 3 (aCons (aLRg1 true (aVar 1)) (aCons (aLst true aNil) aNil)))
 (aSeq (aWhile (aTest (aOp (eqA true) (aVar 2) (aLst false aNil))) (aExpr (aBM "list" appendA (aVar 3) (aCons (aBM "list" popA (aVar 2) (aCons (aCall 2 asp_law_take (aCons (aVar 0) (aCons (aCB lenA (aCons (aVar 2) aNil)) aNil))) aNil)) aNil))))
 (aRet (aVar 3))))
def t_law_weights (asp_law_take : ASp) : AT := (aSeq (aAsg (aLC true (aRange1 (aCons (aVar 1) aNil)) (.nm 4) aYes (aIf (aTest (aOp (eqA false) (aCall 2 asp_law_take (aCons (aVar 0) (aCons (aVar 2) aNil))) (aC (.int 0)))) (aOp (addA false) (aC (.int 1)) (aCall 2 asp_law_take (aCons (aVar 0) (aCons (aC (.int 4)) aNil)))) (aC (.int 0))) [4]) (gName 3))
 (aSeq (aIfS (aTest (aOp (eqA false) (aCB sumA (aCons (aVar 3) aNil)) (aC (.int 0)))) (aAsg (aC (.int 1)) (gSub setA (aVar 3) (aCall 2 asp_law_take (aCons (aVar 0) (aCons (aVar 1) aNil))))) aNext)
 (aRet (aVar 3))))
def t_law_drawn (asp_law_take : ASp) (asp_law_mixed : ASp) (asp_law_weights : ASp) (asp_law_shares : ASp) : AT := (aSeq (aAsg (aTup (aCons (aCall 2 asp_law_take (aCons (aVar 0) (aCons (aC (.int 8)) aNil))) (aCons (aCall 2 asp_law_mixed (aCons (aVar 0) (aCons (aVar 1) aNil))) aNil))) (gTup 2 (gCons (gName 2) (gCons (gName 3) gNil))))
 (aSeq (aAsg (aLC true (aRange1 (aCons (aVar 1) aNil)) (.nm 6) aYes (aCall 3 asp_law_weights (aCons (aVar 0) (aCons (aVar 1) (aCons (aOp (addA false) (aC (.int 2)) (aOp modA (aVar 2) (aC (.int 2)))) aNil)))) [6]) (gName 4))
 (aSeq (aIfS (aTest (aOp (eqA false) (aVar 2) (aC (.int 2)))) (aFor (aRange1 (aCons (aVar 1) aNil)) (gName 6) (aSeq (aAsg (aLC true (aRange1 (aCons (aVar 1) aNil)) (.nm 8) aYes (aOp (addA false) (aOp (mulA false) (aOp ixA (aOp ixA (aVar 4) (aVar 6)) (aVar 8)) (aCB intA (aCons (aOp geA (aVar 8) (aVar 6)) aNil))) (aOp (mulA false) (aCB intA (aCons (aOp (eqA false) (aVar 8) (aVar 6)) aNil)) (aCall 2 asp_law_take (aCons (aVar 0) (aCons (aC (.int 2)) aNil))))) [8]) (gSub setA (aVar 4) (aVar 6)))
 (aAsg (aOp (addA false) (aOp ixA (aOp ixA (aVar 4) (aVar 6)) (aOp subA (aVar 1) (aC (.int 1)))) (aCB intA (aCons (aOp (eqA false) (aCB sumA (aCons (aOp ixA (aVar 4) (aVar 6)) aNil)) (aC (.int 0))) aNil))) (gSub setA (aOp ixA (aVar 4) (aVar 6)) (aOp subA (aVar 1) (aC (.int 1))))))) (aIfS (aTest (aOp (eqA false) (aVar 2) (aC (.int 3)))) (aSeq (aAsg (aOp (addA false) (aC (.int 2)) (aCall 2 asp_law_take (aCons (aVar 0) (aCons (aC (.int 2)) aNil)))) (gName 9))
 (aFor (aRange1 (aCons (aVar 1) aNil)) (gName 6) (aSeq (aAsg (aLC true (aRange1 (aCons (aVar 1) aNil)) (.nm 8) aYes (aIf (aTest (aOp (eqA false) (aOp modA (aVar 8) (aVar 9)) (aOp modA (aOp (addA false) (aVar 6) (aC (.int 1))) (aVar 9)))) (aOp (addA false) (aC (.int 1)) (aOp ixA (aOp ixA (aVar 4) (aVar 6)) (aVar 8))) (aC (.int 0))) [8]) (gSub setA (aVar 4) (aVar 6)))
 (aIfS (aTest (aOp (eqA false) (aCB sumA (aCons (aOp ixA (aVar 4) (aVar 6)) aNil)) (aC (.int 0)))) (aAsg (aC (.int 1)) (gSub setA (aOp ixA (aVar 4) (aVar 6)) (aVar 6))) aNext)))) (aIfS (aTest (aOp (eqA false) (aVar 2) (aC (.int 4)))) (aFor (aRange1 (aCons (aVar 1) aNil)) (gName 6) (aSeq (aFor (aRange1 (aCons (aVar 6) aNil)) (gName 8) (aAsg (aOp ixA (aOp ixA (aVar 4) (aVar 8)) (aVar 6)) (gSub setA (aOp ixA (aVar 4) (aVar 6)) (aVar 8))))
 (aIfS (aTest (aOp (eqA false) (aCB sumA (aCons (aOp ixA (aVar 4) (aVar 6)) aNil)) (aC (.int 0)))) (aAsg (aC (.int 1)) (gSub setA (aOp ixA (aVar 4) (aVar 6)) (aVar 6))) aNext))) (aIfS (aTest (aOp (eqA false) (aVar 2) (aC (.int 5)))) (aFor (aRange1 (aCons (aVar 1) aNil)) (gName 6) (aSeq (aAsg (aLC true (aEnum (aCons (aOp ixA (aVar 4) (aVar 6)) aNil)) (.tp [(.nm 8), (.nm 11)]) aYes (aOp (mulA false) (aVar 11) (aCB intA (aCons (aOp ltA (aCB absA (aCons (aOp subA (aVar 6) (aVar 8)) aNil)) (aC (.int 2))) aNil))) [8, 11]) (gSub setA (aVar 4) (aVar 6)))
 (aIfS (aTest (aOp (eqA false) (aCB sumA (aCons (aOp ixA (aVar 4) (aVar 6)) aNil)) (aC (.int 0)))) (aAsg (aC (.int 1)) (gSub setA (aOp ixA (aVar 4) (aVar 6)) (aVar 6))) aNext))) (aIfS (aTest (aOp (eqA false) (aVar 2) (aC (.int 6)))) (aSeq (aAsg (aOp (addA false) (aC (.int 1)) (aCall 2 asp_law_take (aCons (aVar 0) (aCons (aVar 1) aNil)))) (gName 10))
 (aFor (aRange1 (aCons (aVar 1) aNil)) (gName 6) (aSeq (aAsg (aLC true (aEnum (aCons (aOp ixA (aVar 4) (aVar 6)) aNil)) (.tp [(.nm 8), (.nm 11)]) aYes (aOp (mulA false) (aVar 11) (aCB intA (aCons (aOrV (aOp (eqA false) (aOp ltA (aVar 6) (aVar 10)) (aOp ltA (aVar 8) (aVar 10))) (aOp (eqA false) (aCall 2 asp_law_take (aCons (aVar 0) (aCons (aC (.int 5)) aNil))) (aC (.int 0)))) aNil))) [8, 11]) (gSub setA (aVar 4) (aVar 6)))
 (aIfS (aTest (aOp (eqA false) (aCB sumA (aCons (aOp ixA (aVar 4) (aVar 6)) aNil)) (aC (.int 0)))) (aAsg (aC (.int 1)) (gSub setA (aOp ixA (aVar 4) (aVar 6)) (aVar 6))) aNext)))) aNext)))))
 (aSeq (aAsg (aOp (mulA true) (aLst false (aCons (aC .non) aNil)) (aVar 1)) (gName 5))
 (aSeq (aFor (aRange1 (aCons (aVar 1) aNil)) (gName 6) (aSeq (aAsg (aOp (mulA true) (aLst false (aCons (aC (.int 0)) aNil)) (aVar 1)) (gName 7))
 (aSeq (aFor (aRange1 (aCons (aVar 1) aNil)) (gName 8) (aAsg (aOp ixA (aOp ixA (aVar 4) (aVar 6)) (aVar 8)) (gSub setA (aVar 7) (aOp ixA (aVar 3) (aVar 8)))))
 (aAsg (aCall 1 asp_law_shares (aCons (aVar 7) aNil)) (gSub setA (aVar 5) (aOp ixA (aVar 3) (aVar 6)))))))
 (aRet (aVar 5)))))))
def t_law_small (asp_law_low : ASp) (asp_law_take : ASp) : AT := (aRet (aCall 2 asp_law_low (aCons (aOp subA (aCall 2 asp_law_take (aCons (aVar 0) (aCons (aC (.int 13)) aNil))) (aC (.int 6))) (aCons (aOp (addA false) (aC (.int 1)) (aCall 2 asp_law_take (aCons (aVar 0) (aCons (aC (.int 6)) aNil)))) aNil))))
def t_law_dot (asp_law_sum : ASp) (asp_law_mul : ASp) : AT := (aRet (aCall 1 asp_law_sum (aCons (aLC false (aRange1 (aCons (aCB lenA (aCons (aVar 0) aNil)) aNil)) (.nm 2) aYes (aCall 2 asp_law_mul (aCons (aOp ixA (aVar 0) (aVar 2)) (aCons (aOp ixA (aVar 1) (aVar 2)) aNil))) [2]) aNil)))
def t_law_times (asp_law_dot : ASp) : AT := (aSeq (aAsg (aLC false (aRange1 (aCons (aCB lenA (aCons (aOp ixA (aVar 1) (aC (.int 0))) aNil)) aNil)) (.nm 3) aYes (aLC false (aSeqI (aVar 1)) (.nm 4) aYes (aOp ixA (aVar 4) (aVar 3)) [4]) [3]) (gName 2))
 (aRet (aCB tupleA (aCons (aLC false (aSeqI (aVar 0)) (.nm 4) aYes (aCB tupleA (aCons (aLC false (aSeqI (aVar 2)) (.nm 5) aYes (aCall 2 asp_law_dot (aCons (aVar 4) (aCons (aVar 5) aNil))) [5]) aNil)) [4]) aNil))))
def t_law_unit : AT := (aRet (aCB tupleA (aCons (aLC false (aRange1 (aCons (aVar 0) aNil)) (.nm 1) aYes (aCB tupleA (aCons (aLC false (aRange1 (aCons (aVar 0) aNil)) (.nm 2) aYes (aTup (aCons (aCB intA (aCons (aOp (eqA false) (aVar 1) (aVar 2)) aNil)) (aCons (aC (.int 1)) aNil))) [2]) aNil)) [1]) aNil)))
def t_law_matrix (asp_law_take : ASp) (asp_law_small : ASp) (asp_law_sum : ASp) (asp_law_mul : ASp) : AT := (aSeq (aAsg (aCall 2 asp_law_take (aCons (aVar 0) (aCons (aC (.int 4)) aNil))) (gName 3))
 (aSeq (aIfS (aAnd (aTest (aOp (eqA false) (aVar 3) (aC (.int 0)))) (aTest (aOp gtA (aVar 1) (aC (.int 1))))) (aSeq (aAsg (aLC false (aRange1 (aCons (aOp (addA false) (aC (.int 1)) (aCall 2 asp_law_take (aCons (aVar 0) (aCons (aOp subA (aVar 1) (aC (.int 1))) aNil)))) aNil)) (.nm 7) aYes (aLC false (aRange1 (aCons (aVar 2) aNil)) (.nm 9) aYes (aCall 1 asp_law_small (aCons (aVar 0) aNil)) [9]) [7]) (gName 5))
 (aSeq (aAsg (aLst true aNil) (gName 6))
 (aSeq (aFor (aRange1 (aCons (aVar 1) aNil)) (gName 7) (aSeq (aAsg (aLC false (aSeqI (aVar 5)) (.nm 10) aYes (aTup (aCons (aOp subA (aCall 2 asp_law_take (aCons (aVar 0) (aCons (aC (.int 5)) aNil))) (aC (.int 2))) (aCons (aC (.int 1)) aNil))) [10]) (gName 8))
 (aExpr (aBM "list" appendA (aVar 6) (aCons (aCB tupleA (aCons (aLC false (aRange1 (aCons (aVar 2) aNil)) (.nm 9) aYes (aCall 1 asp_law_sum (aCons (aLC false (aRange1 (aCons (aCB lenA (aCons (aVar 5) aNil)) aNil)) (.nm 11) aYes (aCall 2 asp_law_mul (aCons (aOp ixA (aVar 8) (aVar 11)) (aCons (aOp ixA (aOp ixA (aVar 5) (aVar 11)) (aVar 9)) aNil))) [11]) aNil)) [9]) aNil)) aNil)))))
 (aRet (aCB tupleA (aCons (aVar 6) aNil)))))) aNext)
 (aSeq (aAsg (aOp ixA (aLst false (aCons (aC (.int 1)) (aCons (aC (.int 2)) (aCons (aC (.int 3)) aNil)))) (aOp subA (aVar 3) (aC (.int 1)))) (gName 4))
 (aRet (aCB tupleA (aCons (aLC false (aRange1 (aCons (aVar 1) aNil)) (.nm 7) aYes (aCB tupleA (aCons (aLC false (aRange1 (aCons (aVar 2) aNil)) (.nm 9) aYes (aIf (aTest (aOp (eqA false) (aCall 2 asp_law_take (aCons (aVar 0) (aCons (aVar 4) aNil))) (aC (.int 0)))) (aCall 1 asp_law_small (aCons (aVar 0) aNil)) (aTup (aCons (aC (.int 0)) (aCons (aC (.int 1)) aNil)))) [9]) aNil)) [7]) aNil))))))
def t_law_rows (asp_law_drawn : ASp) : AT := (aRet (aCB tupleA (aCons (aLC false (aSeqI (aCall 2 asp_law_drawn (aCons (aVar 0) (aCons (aVar 1) aNil)))) (.nm 2) aYes (aCB tupleA (aCons (aVar 2) aNil)) [2]) aNil)))
def t_law_power (asp_law_unit : ASp) (asp_law_times : ASp) : AT := (aSeq (aPar3 2 3 4 (aCons (aCall 1 asp_law_unit (aCons (aCB lenA (aCons (aVar 0) aNil)) aNil)) (aCons (aVar 0) (aCons (aVar 1) aNil))))
 (aSeq (aWhile (aTest (aOp gtA (aVar 4) (aC (.int 0)))) (aSeq (aIfS (aTest (aOp (eqA false) (aOp modA (aCB intA (aCons (aVar 4) aNil)) (aC (.int 2))) (aC (.int 1)))) (aAsg (aCall 2 asp_law_times (aCons (aVar 2) (aCons (aVar 3) aNil))) (gName 2)) aNext)
 (aSeq (aAsg (aOp fdivA (aVar 4) (aC (.int 2))) (gName 4))
 (aIfS (aTest (aOp gtA (aVar 4) (aC (.int 0)))) (aAsg (aCall 2 asp_law_times (aCons (aVar 3) (aCons (aVar 3) aNil))) (gName 3)) aNext))))
 (aRet (aVar 2))))
def t_law_products_right (asp_law_take : ASp) (asp_law_matrix : ASp) (asp_law_fraction : ASp) (asp_law_small : ASp) (asp_law_same : ASp) (asp_law_dot : ASp) (asp_dot : ASp) (asp_times_matrix : ASp) (asp_matrix_times : ASp) (asp_law_times : ASp) (asp_product : ASp) : AT := (aSeq (aAsg (aLC false (aRange1 (aCons (aC (.int 3)) aNil)) (.nm 11) aYes (aOp ixA (aLst false (aCons (aC (.int 3)) (aCons (aC (.int 2)) (aCons (aC (.int 4)) (aCons (aC (.int 1)) (aCons (aC (.int 3)) (aCons (aC (.int 2)) (aCons (aC (.int 5)) (aCons (aOp (addA false) (aC (.int 1)) (aCall 2 asp_law_take (aCons (aVar 0) (aCons (aC (.int 8)) aNil)))) aNil))))))))) (aCall 2 asp_law_take (aCons (aVar 0) (aCons (aC (.int 8)) aNil)))) [11]) (gUnl 3 (gCons (gName 1) (gCons (gName 2) (gCons (gName 3) gNil)))))
 (aSeq (aAsg (aTup (aCons (aCall 3 asp_law_matrix (aCons (aVar 0) (aCons (aVar 1) (aCons (aVar 2) aNil)))) (aCons (aCall 3 asp_law_matrix (aCons (aVar 0) (aCons (aVar 2) (aCons (aVar 3) aNil)))) aNil))) (gTup 2 (gCons (gName 4) (gCons (gName 5) gNil))))
 (aSeq (aAsg (aTup (aCons (aCB tupleA (aCons (aLC false (aRange1 (aCons (aVar 1) aNil)) (.nm 12) aYes (aCall 1 asp_law_fraction (aCons (aVar 0) aNil)) [12]) aNil)) (aCons (aCB tupleA (aCons (aLC false (aRange1 (aCons (aVar 3) aNil)) (.nm 12) aYes (aCall 1 asp_law_small (aCons (aVar 0) aNil)) [12]) aNil)) aNil))) (gTup 2 (gCons (gName 6) (gCons (gName 7) gNil))))
 (aSeq (aAsg (aLC false (aRange1 (aCons (aVar 1) aNil)) (.nm 12) aYes (aCall 1 asp_law_small (aCons (aVar 0) aNil)) [12]) (gName 8))
 (aSeq (aIfS (aNot (aTest (aCall 2 asp_law_same (aCons (aLst false (aCons (aCall 2 asp_dot (aCons (aVar 6) (aCons (aCB tupleA (aCons (aVar 8) aNil)) aNil))) (aCons (aCallK 0 2 [1, 0] 2 asp_dot aNil (aCons (aVar 6) (aCons (aCB tupleA (aCons (aVar 8) aNil)) aNil))) aNil))) (aCons (aOp (mulA false) (aLst false (aCons (aCall 2 asp_law_dot (aCons (aVar 6) (aCons (aVar 8) aNil))) aNil)) (aC (.int 2))) aNil))))) (aRet (aC (.bl false))) aNext)
 (aSeq (aAsg (aCB tupleA (aCons (aLC false (aRange1 (aCons (aVar 2) aNil)) (.nm 13) aYes (aCall 2 asp_law_dot (aCons (aVar 6) (aCons (aLC false (aSeqI (aVar 4)) (.nm 14) aYes (aOp ixA (aVar 14) (aVar 13)) [14]) aNil))) [13]) aNil)) (gName 9))
 (aSeq (aIfS (aNot (aTest (aCall 2 asp_law_same (aCons (aLst false (aCons (aCall 2 asp_times_matrix (aCons (aVar 6) (aCons (aVar 4) aNil))) (aCons (aCallK 0 2 [1, 0] 2 asp_times_matrix aNil (aCons (aVar 4) (aCons (aVar 6) aNil))) aNil))) (aCons (aOp (mulA false) (aLst false (aCons (aVar 9) aNil)) (aC (.int 2))) aNil))))) (aRet (aC (.bl false))) aNext)
 (aSeq (aAsg (aCB tupleA (aCons (aLC false (aSeqI (aVar 5)) (.nm 14) aYes (aCall 2 asp_law_dot (aCons (aVar 14) (aCons (aVar 7) aNil))) [14]) aNil)) (gName 9))
 (aSeq (aIfS (aNot (aTest (aCall 2 asp_law_same (aCons (aLst false (aCons (aCall 2 asp_matrix_times (aCons (aVar 5) (aCons (aVar 7) aNil))) (aCons (aCallK 0 2 [1, 0] 2 asp_matrix_times aNil (aCons (aVar 7) (aCons (aVar 5) aNil))) aNil))) (aCons (aOp (mulA false) (aLst false (aCons (aVar 9) aNil)) (aC (.int 2))) aNil))))) (aRet (aC (.bl false))) aNext)
 (aSeq (aAsg (aCall 2 asp_law_times (aCons (aVar 4) (aCons (aVar 5) aNil))) (gName 10))
 (aSeq (aIfS (aNot (aTest (aCall 2 asp_law_same (aCons (aLst false (aCons (aCall 2 asp_product (aCons (aVar 4) (aCons (aVar 5) aNil))) (aCons (aCallK 0 2 [1, 0] 2 asp_product aNil (aCons (aVar 5) (aCons (aVar 4) aNil))) aNil))) (aCons (aOp (mulA false) (aLst false (aCons (aVar 10) aNil)) (aC (.int 2))) aNil))))) (aRet (aC (.bl false))) aNext)
 (aRet (aOp (eqA false) (aLC false (aSeqI (aCall 2 asp_product (aCons (aVar 4) (aCons (aVar 5) aNil)))) (.nm 14) aYes (aCall 2 asp_law_dot (aCons (aVar 14) (aCons (aVar 7) aNil))) [14]) (aLC false (aSeqI (aVar 4)) (.nm 14) aYes (aCall 2 asp_law_dot (aCons (aVar 14) (aCons (aVar 9) aNil))) [14]))))))))))))))
def t_law_powers_right (asp_law_take : ASp) (asp_law_rows : ASp) (asp_law_matrix : ASp) (asp_law_power : ASp) (asp_law_same : ASp) (asp_power : ASp) (asp_law_times : ASp) : AT := (aSeq (aAsg (aOp ixA (aLst false (aCons (aC (.int 2)) (aCons (aC (.int 3)) (aCons (aC (.int 2)) (aCons (aC (.int 1)) (aCons (aC (.int 3)) (aCons (aC (.int 2)) (aCons (aC (.int 4)) (aCons (aOp (addA false) (aC (.int 5)) (aCall 2 asp_law_take (aCons (aVar 0) (aCons (aC (.int 4)) aNil)))) aNil))))))))) (aCall 2 asp_law_take (aCons (aVar 0) (aCons (aC (.int 8)) aNil)))) (gName 1))
 (aSeq (aAsg (aIf (aTest (aOp (eqA false) (aCall 2 asp_law_take (aCons (aVar 0) (aCons (aC (.int 2)) aNil))) (aC (.int 0)))) (aCall 2 asp_law_rows (aCons (aVar 0) (aCons (aCB min2A (aCons (aC (.int 7)) (aCons (aVar 1) aNil))) aNil))) (aCall 3 asp_law_matrix (aCons (aVar 0) (aCons (aVar 1) (aCons (aVar 1) aNil))))) (gName 2))
 (aSeq (aAsg (aOp ixA (aLst false (aCons (aC (.int 0)) (aCons (aC (.int 1)) (aCons (aC (.int 2)) (aCons (aC (.int 3)) (aCons (aC (.int 5)) (aCons (aC (.int 7)) (aCons (aC (.int 4)) (aCons (aC (.int 40)) aNil))))))))) (aCall 2 asp_law_take (aCons (aVar 0) (aCons (aIf (aTest (aOp ltA (aVar 1) (aC (.int 4)))) (aC (.int 8)) (aC (.int 5))) aNil)))) (gName 3))
 (aSeq (aAsg (aCall 2 asp_law_power (aCons (aVar 2) (aCons (aVar 3) aNil))) (gName 4))
 (aSeq (aIfS (aNot (aTest (aCall 2 asp_law_same (aCons (aLst false (aCons (aCall 2 asp_power (aCons (aVar 2) (aCons (aVar 3) aNil))) (aCons (aCallK 0 2 [1, 0] 2 asp_power aNil (aCons (aVar 3) (aCons (aVar 2) aNil))) aNil))) (aCons (aOp (mulA false) (aLst false (aCons (aVar 4) aNil)) (aC (.int 2))) aNil))))) (aRet (aC (.bl false))) aNext)
 (aSeq (aAsg (aCall 2 asp_law_take (aCons (aVar 0) (aCons (aOp (addA false) (aVar 3) (aC (.int 1))) aNil))) (gName 5))
 (aRet (aCall 2 asp_law_same (aCons (aCall 2 asp_law_times (aCons (aCall 2 asp_power (aCons (aVar 2) (aCons (aVar 5) aNil))) (aCons (aCall 2 asp_power (aCons (aVar 2) (aCons (aOp subA (aVar 3) (aVar 5)) aNil))) aNil))) (aCons (aVar 4) aNil))))))))))
def t_law (asp_law_box : ASp) (asp_law_cell : ASp) (asp_law_powers_right : ASp) (asp_law_products_right : ASp) : AT := (aSeq (aFor (aRange1 (aCons (aCB max2A (aCons (aC (.int 2)) (aCons (aCB min2A (aCons (aC (.int 4)) (aCons (aCB lenA (aCons (aVar 0) aNil)) aNil))) aNil))) aNil)) (gName 1) (aSeq (aAsg (aCall 1 asp_law_box (aCons (aCall 2 asp_law_cell (aCons (aVar 0) (aCons (aVar 1) aNil))) aNil)) (gName 2))
 (aIfS (aOr (aNot (aTest (aCall 1 asp_law_products_right (aCons (aVar 2) aNil)))) (aNot (aTest (aCall 1 asp_law_powers_right (aCons (aVar 2) aNil))))) (aRet (aC (.bl false))) aNext)))
 (aRet (aC (.bl true))))
end K02
set_option Elab.async false
set_option linter.all false
set_option maxRecDepth 100000
set_option autoImplicit false
set_option maxHeartbeats 4000000
namespace K34
open PySem PySem.Spec PyProof.Rows L2 Ab K00 K02
def t_is_less (asp_compare : ASp) : AT := (aRet (aOp ltA (aCall 2 asp_compare (aCons (aVar 0) (aCons (aVar 1) aNil))) (aC (.int 0))))
def t_greatest (asp_is_less : ASp) : AT := (aSeq (aAsg (aOp ixA (aVar 0) (aC (.int 0))) (gName 1))
 (aSeq (aFor (aSeqI (aVar 0)) (gName 2) (aAsg (aIf (aTest (aCall 2 asp_is_less (aCons (aVar 1) (aCons (aVar 2) aNil)))) (aVar 2) (aVar 1)) (gName 1)))
 (aRet (aVar 1))))
def t_is_probability (asp_is_fraction : ASp) : AT := (aRet (aAndV (aCall 1 asp_is_fraction (aCons (aVar 0) aNil)) (aChain leA leA (aC (.int 0)) (aOp ixA (aVar 0) (aC (.int 0))) (aOp ixA (aVar 0) (aC (.int 1))))))
def t_is_distribution (asp_total : ASp) (asp_is_probability : ASp) (asp_is_tuple_of : ASp) : AT := (aRet (aAndV (aCall 2 asp_is_tuple_of (aCons (aVar 1) (aCons (aVar 0) aNil))) (aAndV (aCB allA (aCons (aLC false (aSeqI (aVar 1)) (.nm 2) aYes (aCall 1 asp_is_probability (aCons (aVar 2) aNil)) [2]) aNil)) (aOp (eqA false) (aCall 1 asp_total (aCons (aVar 1) aNil)) (aC (.tup [.int 1, .int 1]))))))
def t_check_distributions (asp_is_distribution : ASp) (C_InvalidDistribution : Addr) : AT := (aSeq (aAsg (aIf (aTest (aCB isiA (aCons (aVar 0) (aCons (aC (.ty "tuple")) aNil)))) (aCB lenA (aCons (aVar 0) aNil)) (aC (.int 0))) (gName 2))
 (aSeq (aIfS (aOr (aNot (aTest (aChain leA leA (aC (.int 1)) (aVar 2) (aC (.int 7))))) (aNot (aTest (aCall 2 asp_is_distribution (aCons (aVar 2) (aCons (aVar 0) aNil)))))) (aRaise C_InvalidDistribution "given" (aCons (aVar 0) aNil)) aNext)
 (aIfS (aNot (aTest (aCall 2 asp_is_distribution (aCons (aVar 2) (aCons (aVar 1) aNil))))) (aRaise C_InvalidDistribution "given" (aCons (aVar 1) aNil)) aNext)))
def t_gap (asp_subtract : ASp) : AT := (aSeq (aAsg (aCall 2 asp_subtract (aCons (aVar 0) (aCons (aVar 1) aNil))) (gTup 2 (gCons (gName 2) (gCons (gName 3) gNil))))
 (aRet (aTup (aCons (aCB absA (aCons (aVar 2) aNil)) (aCons (aVar 3) aNil)))))
def t_variation_of (asp_multiply : ASp) (asp_total : ASp) (asp_gap : ASp) : AT := (aRet (aCall 2 asp_multiply (aCons (aC (.tup [.int 1, .int 2])) (aCons (aCall 1 asp_total (aCons (aLC false (aZip (aCons (aVar 0) (aCons (aVar 1) aNil))) (.tp [(.nm 2), (.nm 3)]) aYes (aCall 2 asp_gap (aCons (aVar 2) (aCons (aVar 3) aNil))) [2, 3]) aNil)) aNil))))
def t_variation (asp_check_distributions : ASp) (asp_variation_of : ASp) : AT := (aSeq (aExpr (aCall 2 asp_check_distributions (aCons (aVar 0) (aCons (aVar 1) aNil))))
 (aRet (aCall 2 asp_variation_of (aCons (aVar 0) (aCons (aVar 1) aNil)))))
def t_best_event (asp_check_distributions : ASp) (asp_is_less : ASp) : AT := (aSeq (aExpr (aCall 2 asp_check_distributions (aCons (aVar 0) (aCons (aVar 1) aNil))))
 (aRet (aCB tupleA (aCons (aLC false (aEnumX (aCons (aVar 0) aNil)) (.tp [(.nm 2), (.nm 3)]) (aTest (aCall 2 asp_is_less (aCons (aOp ixA (aVar 1) (aVar 2)) (aCons (aVar 3) aNil)))) (aVar 2) [2, 3]) aNil))))
def t_separation (asp_check_distributions : ASp) (asp_greatest : ASp) (asp_subtract : ASp) (asp_divide : ASp) : AT := (aSeq (aExpr (aCall 2 asp_check_distributions (aCons (aVar 0) (aCons (aVar 1) aNil))))
 (aSeq (aAsg (aLC false (aZip (aCons (aVar 0) (aCons (aVar 1) aNil))) (.tp [(.nm 3), (.nm 4)]) (aTest (aOp (eqA true) (aVar 4) (aC (.tup [.int 0, .int 1])))) (aTup (aCons (aVar 3) (aCons (aVar 4) aNil))) [3, 4]) (gName 2))
 (aRet (aCall 1 asp_greatest (aCons (aLC false (aSeqI (aVar 2)) (.tp [(.nm 3), (.nm 4)]) aYes (aCall 2 asp_subtract (aCons (aC (.tup [.int 1, .int 1])) (aCons (aCall 2 asp_divide (aCons (aVar 3) (aCons (aVar 4) aNil))) aNil))) [3, 4]) aNil)))))
def t_law_vary (asp_law_less : ASp) (asp_law_add : ASp) (asp_law_mul : ASp) : AT := (aSeq (aAsg (aTup (aCons (aC (.int 0)) (aCons (aC (.int 1)) aNil))) (gName 2))
 (aSeq (aFor (aZip (aCons (aVar 0) (aCons (aVar 1) aNil))) (gTup 2 (gCons (gName 3) (gCons (gName 4) gNil))) (aSeq (aAsg (aCall 2 asp_law_less (aCons (aVar 3) (aCons (aVar 4) aNil))) (gName 5))
 (aAsg (aCall 2 asp_law_add (aCons (aVar 2) (aCons (aTup (aCons (aCB absA (aCons (aOp ixA (aVar 5) (aC (.int 0))) aNil)) (aCons (aOp ixA (aVar 5) (aC (.int 1))) aNil))) aNil))) (gName 2))))
 (aRet (aCall 2 asp_law_mul (aCons (aVar 2) (aCons (aTup (aCons (aC (.int 1)) (aCons (aC (.int 2)) aNil))) aNil))))))
def t_law_pair (asp_law_shares : ASp) (asp_law_weights : ASp) (asp_law_take : ASp) : AT := (aSeq (aAsg (aCall 1 asp_law_shares (aCons (aCall 3 asp_law_weights (aCons (aVar 0) (aCons (aVar 1) (aCons (aOp (addA false) (aC (.int 1)) (aCall 2 asp_law_take (aCons (aVar 0) (aCons (aC (.int 3)) aNil)))) aNil)))) aNil)) (gName 2))
 (aSeq (aAsg (aCall 2 asp_law_take (aCons (aVar 0) (aCons (aC (.int 6)) aNil))) (gName 3))
 (aSeq (aIfS (aTest (aOp (eqA false) (aVar 3) (aC (.int 0)))) (aRet (aTup (aCons (aVar 2) (aCons (aVar 2) aNil)))) aNext)
 (aSeq (aIfS (aTest (aOp (eqA false) (aVar 3) (aC (.int 1)))) (aSeq (aAsg (aLC true (aSeqI (aVar 2)) (.tp [(.nm 8), (.nm 9)]) aYes (aOp fdivA (aOp (mulA false) (aC (.int 12)) (aVar 8)) (aVar 9)) [8, 9]) (gName 4))
 (aSeq (aAsg (aOp (addA false) (aC (.int 1)) (aCall 2 asp_law_take (aCons (aVar 0) (aCons (aC (.int 9)) aNil)))) (gSub setA (aVar 4) (aCall 2 asp_law_take (aCons (aVar 0) (aCons (aVar 1) aNil)))))
 (aRet (aTup (aCons (aVar 2) (aCons (aCall 1 asp_law_shares (aCons (aVar 4) aNil)) aNil)))))) aNext)
 (aSeq (aIfS (aTest (aOp (eqA false) (aVar 3) (aC (.int 2)))) (aSeq (aAsg (aOp (addA false) (aC (.int 1)) (aCall 2 asp_law_take (aCons (aVar 0) (aCons (aVar 1) aNil)))) (gName 5))
 (aSeq (aAsg (aLC false (aRange1 (aCons (aVar 1) aNil)) (.nm 10) aYes (aIf (aTest (aOp ltA (aVar 10) (aVar 5))) (aOp (addA false) (aC (.int 1)) (aCall 2 asp_law_take (aCons (aVar 0) (aCons (aC (.int 5)) aNil)))) (aC (.int 0))) [10]) (gName 6))
 (aSeq (aAsg (aLC false (aRange1 (aCons (aVar 1) aNil)) (.nm 10) aYes (aIf (aTest (aOp geA (aVar 10) (aVar 5))) (aOp (addA false) (aC (.int 1)) (aCall 2 asp_law_take (aCons (aVar 0) (aCons (aC (.int 5)) aNil)))) (aCB intA (aCons (aOp (eqA false) (aVar 5) (aVar 1)) aNil))) [10]) (gName 7))
 (aRet (aTup (aCons (aCall 1 asp_law_shares (aCons (aVar 6) aNil)) (aCons (aCall 1 asp_law_shares (aCons (aVar 7) aNil)) aNil))))))) aNext)
 (aRet (aTup (aCons (aVar 2) (aCons (aCall 1 asp_law_shares (aCons (aCall 3 asp_law_weights (aCons (aVar 0) (aCons (aVar 1) (aCons (aOp (addA false) (aC (.int 1)) (aCall 2 asp_law_take (aCons (aVar 0) (aCons (aC (.int 3)) aNil)))) aNil)))) aNil)) aNil)))))))))
def t_law_event (asp_law_sum : ASp) (asp_law_less : ASp) : AT := (aRet (aCall 1 asp_law_sum (aCons (aLC false (aSeqI (aVar 2)) (.nm 3) aYes (aCall 2 asp_law_less (aCons (aOp ixA (aVar 0) (aVar 3)) (aCons (aOp ixA (aVar 1) (aVar 3)) aNil))) [3]) aNil)))
def t_law_greatest (asp_law_event : ASp) (asp_law_below : ASp) : AT := (aSeq (aAsg (aTup (aCons (aC (.int 0)) (aCons (aC (.int 1)) aNil))) (gName 2))
 (aSeq (aFor (aRange1 (aCons (aOp shlA (aC (.int 1)) (aCB lenA (aCons (aVar 0) aNil))) aNil)) (gName 3) (aSeq (aAsg (aCall 3 asp_law_event (aCons (aVar 0) (aCons (aVar 1) (aCons (aLC false (aRange1 (aCons (aCB lenA (aCons (aVar 0) aNil)) aNil)) (.nm 5) (aTru (aOp andA (aOp shrA (aVar 3) (aVar 5)) (aC (.int 1)))) (aVar 5) [5]) aNil)))) (gName 4))
 (aAsg (aIf (aTest (aCall 2 asp_law_below (aCons (aVar 2) (aCons (aVar 4) aNil)))) (aVar 4) (aVar 2)) (gName 2))))
 (aRet (aVar 2))))
def t_law_apart (asp_law_less : ASp) (asp_law_div : ASp) (asp_law_below : ASp) : AT := (aSeq (aAsg (aC .non) (gName 2))
 (aSeq (aFor (aZip (aCons (aVar 0) (aCons (aVar 1) aNil))) (gTup 2 (gCons (gName 3) (gCons (gName 4) gNil))) (aIfS (aTest (aOp gtA (aOp ixA (aVar 4) (aC (.int 0))) (aC (.int 0)))) (aSeq (aAsg (aCall 2 asp_law_less (aCons (aTup (aCons (aC (.int 1)) (aCons (aC (.int 1)) aNil))) (aCons (aCall 2 asp_law_div (aCons (aVar 3) (aCons (aVar 4) aNil))) aNil))) (gName 5))
 (aAsg (aIf (aOr (aTest (aOp (isA false) (aVar 2) (aC .non))) (aTest (aCall 2 asp_law_below (aCons (aVar 2) (aCons (aVar 5) aNil))))) (aVar 5) (aVar 2)) (gName 2))) aNext))
 (aRet (aVar 2))))
def t_law_is_set : AT := (aSeq (aIfS (aOr (aNot (aTest (aCB isiA (aCons (aVar 1) (aCons (aC (.ty "tuple")) aNil))))) (aTest (aOp (eqA true) (aLC false (aSeqI (aVar 1)) (.nm 2) (aOr (aNot (aTest (aCB isiA (aCons (aVar 2) (aCons (aC (.ty "int")) aNil))))) (aOr (aTest (aCB isiA (aCons (aVar 2) (aCons (aC (.ty "bool")) aNil)))) (aNot (aTest (aChain leA ltA (aC (.int 0)) (aVar 2) (aVar 0)))))) (aVar 2) [2]) (aLst false aNil)))) (aRet (aC (.bl false))) aNext)
 (aRet (aOp (eqA false) (aLC false (aRange2 (aCons (aC (.int 1)) (aCons (aCB lenA (aCons (aVar 1) aNil)) aNil))) (.nm 2) (aTest (aOp geA (aOp ixA (aVar 1) (aOp subA (aVar 2) (aC (.int 1)))) (aOp ixA (aVar 1) (aVar 2)))) (aVar 2) [2]) (aLst false aNil))))
def t_law_asked (asp_variation : ASp) (asp_best_event : ASp) (asp_separation : ASp) (C_InvalidDistribution : Addr) (m : Value → Value → Option Bool) : AT := (aTry m [(.ref C_InvalidDistribution, some 4, fun a cls dd => (aRet (aLst false (aCons (aC (.str "refused")) (aCons (aXf a cls dd C_InvalidDistribution "given" (aVar 4)) aNil)))))] (aSeq (aIfS (aTest (aOp (eqA false) (aVar 0) (aC (.int 0)))) (aRet (aIf (aTest (aVar 3)) (aCallK 0 2 [1, 0] 2 asp_variation aNil (aCons (aVar 2) (aCons (aVar 1) aNil))) (aCall 2 asp_variation (aCons (aVar 1) (aCons (aVar 2) aNil))))) aNext)
 (aSeq (aIfS (aTest (aOp (eqA false) (aVar 0) (aC (.int 1)))) (aRet (aIf (aTest (aVar 3)) (aCallK 0 2 [1, 0] 2 asp_best_event aNil (aCons (aVar 2) (aCons (aVar 1) aNil))) (aCall 2 asp_best_event (aCons (aVar 1) (aCons (aVar 2) aNil))))) aNext)
 (aRet (aIf (aTest (aVar 3)) (aCallK 0 2 [1, 0] 2 asp_separation aNil (aCons (aVar 2) (aCons (aVar 1) aNil))) (aCall 2 asp_separation (aCons (aVar 1) (aCons (aVar 2) aNil))))))))
def t_law_near (asp_law_take : ASp) (asp_law_add : ASp) (asp_law_less : ASp) : AT := (aSeq (aAsg (aCB lenA (aCons (aVar 1) aNil)) (gName 2))
 (aSeq (aAsg (aCall 2 asp_law_take (aCons (aVar 0) (aCons (aVar 2) aNil))) (gName 3))
 (aSeq (aAsg (aOp ixA (aVar 1) (aVar 3)) (gTup 2 (gCons (gName 4) (gCons (gName 5) gNil))))
 (aSeq (aAsg (aLst false (aCons (aCB (listA false) (aCons (aVar 1) aNil)) (aCons (aOp (addA false) (aVar 1) (aTup (aCons (aTup (aCons (aC (.int 0)) (aCons (aC (.int 1)) aNil))) aNil))) (aCons (aSl (slA false) (aVar 1) aNoPart (aPart (aUn negA (aC (.int 1))))) (aCons (aC .non) (aCons (aC (.str "one")) (aCons (aOp (addA false) (aOp (addA false) (aSl (slA false) (aVar 1) aNoPart (aPart (aVar 3))) (aTup (aCons (aTup (aCons (aOp (addA false) (aVar 4) (aC (.int 1))) (aCons (aVar 5) aNil))) aNil))) (aSl (slA false) (aVar 1) (aPart (aOp (addA false) (aVar 3) (aC (.int 1)))) aNoPart)) (aCons (aOp (addA false) (aOp (addA false) (aSl (slA false) (aVar 1) aNoPart (aPart (aVar 3))) (aTup (aCons (aC .non) aNil))) (aSl (slA false) (aVar 1) (aPart (aOp (addA false) (aVar 3) (aC (.int 1)))) aNoPart)) aNil)))))))) (gName 6))
 (aSeq (aAsg (aOp (addA false) (aVar 6) (aLst false (aCons (aOp (addA false) (aOp (addA false) (aSl (slA false) (aVar 1) aNoPart (aPart (aVar 3))) (aTup (aCons (aLst false (aCons (aVar 4) (aCons (aVar 5) aNil))) aNil))) (aSl (slA false) (aVar 1) (aPart (aOp (addA false) (aVar 3) (aC (.int 1)))) aNoPart)) (aCons (aOp (addA false) (aOp (addA false) (aSl (slA false) (aVar 1) aNoPart (aPart (aVar 3))) (aTup (aCons (aTup (aCons (aOp (mulA false) (aC (.int 2)) (aVar 4)) (aCons (aOp (mulA false) (aC (.int 2)) (aVar 5)) aNil))) aNil))) (aSl (slA false) (aVar 1) (aPart (aOp (addA false) (aVar 3) (aC (.int 1)))) aNoPart)) (aCons (aOp (addA false) (aOp (addA false) (aSl (slA false) (aVar 1) aNoPart (aPart (aVar 3))) (aTup (aCons (aTup (aCons (aVar 4) (aCons (aVar 5) (aCons (aC (.int 0)) aNil)))) aNil))) (aSl (slA false) (aVar 1) (aPart (aOp (addA false) (aVar 3) (aC (.int 1)))) aNoPart)) aNil))))) (gName 6))
 (aSeq (aAsg (aOp (addA false) (aVar 6) (aLst false (aCons (aOp (addA false) (aOp (addA false) (aSl (slA false) (aVar 1) aNoPart (aPart (aVar 3))) (aTup (aCons (aTup (aCons (aUn negA (aC (.int 1))) (aCons (aC (.int 2)) aNil))) aNil))) (aSl (slA false) (aVar 1) (aPart (aOp (addA false) (aVar 3) (aC (.int 1)))) aNoPart)) (aCons (aIf (aTest (aOp (eqA false) (aVar 5) (aC (.int 1)))) (aOp (addA false) (aOp (addA false) (aSl (slA false) (aVar 1) aNoPart (aPart (aVar 3))) (aTup (aCons (aTup (aCons (aVar 4) (aCons (aC (.bl true)) aNil))) aNil))) (aSl (slA false) (aVar 1) (aPart (aOp (addA false) (aVar 3) (aC (.int 1)))) aNoPart)) (aOp (mulX false) (aTup (aCons (aTup (aCons (aUn negA (aVar 4)) (aCons (aUn negA (aVar 5)) aNil))) aNil)) (aVar 2))) (aCons (aTup aNil) (aCons (aC (.int 5)) aNil)))))) (gName 6))
 (aSeq (aIfS (aTest (aOp gtA (aVar 2) (aC (.int 1)))) (aSeq (aAsg (aOp modA (aCB intA (aCons (aOp (addA false) (aVar 3) (aC (.int 1))) aNil)) (aVar 2)) (gName 7))
 (aSeq (aAsg (aCB (listA true) (aCons (aVar 1) aNil)) (gName 8))
 (aSeq (aAsg (aTup (aCons (aCall 2 asp_law_add (aCons (aOp ixA (aVar 1) (aVar 3)) (aCons (aTup (aCons (aC (.int 3)) (aCons (aC (.int 2)) aNil))) aNil))) (aCons (aCall 2 asp_law_less (aCons (aOp ixA (aVar 1) (aVar 7)) (aCons (aTup (aCons (aC (.int 3)) (aCons (aC (.int 2)) aNil))) aNil))) aNil))) (gTup 2 (gCons (gSub setA (aVar 8) (aVar 3)) (gCons (gSub setA (aVar 8) (aVar 7)) gNil))))
 (aAsg (aOp (addA false) (aVar 6) (aOp (mulA false) (aLst false (aCons (aCB tupleA (aCons (aVar 8) aNil)) aNil)) (aCB intA (aCons (aOp ltA (aOp ixA (aOp ixA (aVar 8) (aVar 7)) (aC (.int 0))) (aC (.int 0))) aNil)))) (gName 6))))) aNext)
 (aRet (aOp ixA (aVar 6) (aCall 2 asp_law_take (aCons (aVar 0) (aCons (aCB lenA (aCons (aVar 6) aNil)) aNil))))))))))))
def t_law_refusals_right (asp_law_near : ASp) (asp_law_same : ASp) (asp_law_asked : ASp) : AT := (aSeq (aFor (aRange1 (aCons (aC (.int 3)) aNil)) (gName 3) (aSeq (aPar 4 5 (aCons (aCall 2 asp_law_near (aCons (aVar 0) (aCons (aVar 1) aNil))) (aCons (aCall 2 asp_law_near (aCons (aVar 0) (aCons (aVar 2) aNil))) aNil)))
 (aSeq (aIfS (aAnd (aTest (aCB isiA (aCons (aVar 4) (aCons (aC (.ty "tuple")) aNil)))) (aAnd (aTest (aOp (eqA false) (aVar 4) (aSl (slA false) (aVar 1) aNoPart (aPart (aUn negA (aC (.int 1))))))) (aAnd (aTest (aOp gtA (aCB lenA (aCons (aVar 1) aNil)) (aC (.int 1)))) (aTest (aOp (eqA false) (aOp ixA (aVar 1) (aUn negA (aC (.int 1)))) (aTup (aCons (aC (.int 0)) (aCons (aC (.int 1)) aNil)))))))) (aAsg (aC .non) (gName 4)) aNext)
 (aSeq (aIfS (aAnd (aTest (aCB isiA (aCons (aVar 4) (aCons (aC (.ty "tuple")) aNil)))) (aAnd (aTest (aOp (eqA false) (aVar 4) (aOp (addA false) (aVar 1) (aTup (aCons (aTup (aCons (aC (.int 0)) (aCons (aC (.int 1)) aNil))) aNil))))) (aTest (aOp ltA (aCB lenA (aCons (aVar 1) aNil)) (aC (.int 7)))))) (aAsg (aC (.str "first")) (gName 4)) aNext)
 (aSeq (aIfS (aNot (aTest (aCall 2 asp_law_same (aCons (aCall 4 asp_law_asked (aCons (aVar 3) (aCons (aVar 4) (aCons (aVar 5) (aCons (aOp (eqA false) (aVar 3) (aC (.int 1))) aNil))))) (aCons (aLst false (aCons (aC (.str "refused")) (aCons (aVar 4) aNil))) aNil))))) (aRet (aC (.bl false))) aNext)
 (aIfS (aNot (aTest (aCall 2 asp_law_same (aCons (aCall 4 asp_law_asked (aCons (aVar 3) (aCons (aVar 1) (aCons (aVar 5) (aCons (aOp (eqA true) (aVar 3) (aC (.int 1))) aNil))))) (aCons (aLst false (aCons (aC (.str "refused")) (aCons (aVar 5) aNil))) aNil))))) (aRet (aC (.bl false))) aNext))))))
 (aRet (aC (.bl true))))
def t_law_right (asp_law_take : ASp) (asp_law_pair : ASp) (asp_law_vary : ASp) (asp_law_greatest : ASp) (asp_law_same : ASp) (asp_law_apart : ASp) (asp_law_asked : ASp) (asp_law_event : ASp) (asp_law_is_set : ASp) (asp_law_refusals_right : ASp) : AT := (aSeq (aAsg (aOp ixA (aLst false (aCons (aC (.int 2)) (aCons (aC (.int 3)) (aCons (aC (.int 4)) (aCons (aC (.int 3)) (aCons (aC (.int 5)) (aCons (aC (.int 2)) (aCons (aC (.int 1)) (aCons (aOp (addA false) (aC (.int 6)) (aCall 2 asp_law_take (aCons (aVar 0) (aCons (aC (.int 2)) aNil)))) aNil))))))))) (aCall 2 asp_law_take (aCons (aVar 0) (aCons (aC (.int 8)) aNil)))) (gName 1))
 (aSeq (aAsg (aCall 2 asp_law_pair (aCons (aVar 0) (aCons (aVar 1) aNil))) (gTup 2 (gCons (gName 2) (gCons (gName 3) gNil))))
 (aSeq (aPar 4 5 (aCons (aCall 2 asp_law_vary (aCons (aVar 2) (aCons (aVar 3) aNil))) (aCons (aCall 2 asp_law_greatest (aCons (aVar 2) (aCons (aVar 3) aNil))) aNil)))
 (aSeq (aIfS (aTest (aOp (eqA true) (aVar 4) (aVar 5))) (aRet (aC (.bl false))) aNext)
 (aSeq (aFor (aRange1 (aCons (aC (.int 2)) aNil)) (gName 6) (aSeq (aAsg (aOp ixA (aLst false (aCons (aTup (aCons (aVar 2) (aCons (aVar 3) aNil))) (aCons (aTup (aCons (aVar 3) (aCons (aVar 2) aNil))) aNil))) (aVar 6)) (gTup 2 (gCons (gName 7) (gCons (gName 8) gNil))))
 (aSeq (aAsg (aOp (eqA false) (aCall 2 asp_law_take (aCons (aVar 0) (aCons (aC (.int 2)) aNil))) (aC (.int 0))) (gName 9))
 (aSeq (aIfS (aOr (aNot (aTest (aCall 2 asp_law_same (aCons (aCall 4 asp_law_asked (aCons (aC (.int 0)) (aCons (aVar 7) (aCons (aVar 8) (aCons (aVar 9) aNil))))) (aCons (aVar 4) aNil))))) (aNot (aTest (aCall 2 asp_law_same (aCons (aCall 4 asp_law_asked (aCons (aC (.int 2)) (aCons (aVar 7) (aCons (aVar 8) (aCons (aNotV (aVar 9)) aNil))))) (aCons (aCall 2 asp_law_apart (aCons (aVar 7) (aCons (aVar 8) aNil))) aNil)))))) (aRet (aC (.bl false))) aNext)
 (aSeq (aAsg (aCall 4 asp_law_asked (aCons (aC (.int 1)) (aCons (aVar 7) (aCons (aVar 8) (aCons (aVar 9) aNil))))) (gName 10))
 (aIfS (aOr (aNot (aTest (aCall 2 asp_law_is_set (aCons (aVar 1) (aCons (aVar 10) aNil))))) (aOr (aTest (aOp (eqA true) (aCall 3 asp_law_event (aCons (aVar 7) (aCons (aVar 8) (aCons (aVar 10) aNil)))) (aVar 4))) (aNot (aTest (aCall 2 asp_law_same (aCons (aCall 4 asp_law_asked (aCons (aC (.int 1)) (aCons (aVar 7) (aCons (aVar 8) (aCons (aNotV (aVar 9)) aNil))))) (aCons (aVar 10) aNil))))))) (aRet (aC (.bl false))) aNext))))))
 (aRet (aCall 3 asp_law_refusals_right (aCons (aVar 0) (aCons (aVar 2) (aCons (aVar 3) aNil))))))))))
def t_law (asp_law_box : ASp) (asp_law_cell : ASp) (asp_law_right : ASp) : AT := (aSeq (aFor (aRange1 (aCons (aC (.int 3)) aNil)) (gName 1) (aSeq (aAsg (aCall 1 asp_law_box (aCons (aCall 2 asp_law_cell (aCons (aVar 0) (aCons (aVar 1) aNil))) aNil)) (gName 2))
 (aIfS (aOr (aNot (aTest (aCall 1 asp_law_right (aCons (aVar 2) aNil)))) (aNot (aTest (aCall 1 asp_law_right (aCons (aVar 2) aNil))))) (aRet (aC (.bl false))) aNext)))
 (aRet (aC (.bl true))))
end K34
set_option Elab.async false
set_option linter.all false
set_option maxRecDepth 100000
set_option autoImplicit false
set_option maxHeartbeats 4000000
namespace K34
open PySem PySem.Spec PyProof.Rows L2 Ab K00 K02
def topS (i : Nat) : Stmt := PySem.Challenge.pw_markovbench_k34_distances_of_distributio.main.body.getD i (.Pass ⟨0, 0, 0, 0⟩)
/-! ### is_integer -/
abbrev s_is_integer : Stmt := topS 6
theorem sc_is_integer : FnScope ["value"] ["value"] (defScope s_is_integer) := ⟨rfl, rfl, rfl, by decide +kernel, rfl, by decide +kernel, by decide +kernel⟩
theorem bd_is_integer : ∀ (kV doc pm : Value) (an : Option Addr) (cdv ct : Value) (us : List Value), us.length = (["value"] : List Str).length → bindArgs (PySem.W.fnOf "is_integer" "is_integer" (defArgs s_is_integer) (defBody s_is_integer) (defScope s_is_integer) .none kV doc pm an cdv ct) ⟨us, []⟩ = pure ((["value"] : List Str).zip us) := fun _ _ _ _ _ _ us hl => match us, hl with | [_], _ => rfl
/-! ### is_tuple_of -/
abbrev s_is_tuple_of : Stmt := topS 7
theorem sc_is_tuple_of : FnScope ["value", "many"] ["value", "many"] (defScope s_is_tuple_of) := ⟨rfl, rfl, rfl, by decide +kernel, rfl, by decide +kernel, by decide +kernel⟩
theorem bd_is_tuple_of : ∀ (kV doc pm : Value) (an : Option Addr) (cdv ct : Value) (us : List Value), us.length = (["value", "many"] : List Str).length → bindArgs (PySem.W.fnOf "is_tuple_of" "is_tuple_of" (defArgs s_is_tuple_of) (defBody s_is_tuple_of) (defScope s_is_tuple_of) .none kV doc pm an cdv ct) ⟨us, []⟩ = pure ((["value", "many"] : List Str).zip us) := fun _ _ _ _ _ _ us hl => match us, hl with | [_, _], _ => rfl
/-! ### is_fraction -/
abbrev s_is_fraction : Stmt := topS 11
theorem sc_is_fraction : FnScope ["value", "item"] ["value"] (defScope s_is_fraction) := ⟨rfl, rfl, rfl, by decide +kernel, rfl, by decide +kernel, by decide +kernel⟩
theorem bd_is_fraction : ∀ (kV doc pm : Value) (an : Option Addr) (cdv ct : Value) (us : List Value), us.length = (["value"] : List Str).length → bindArgs (PySem.W.fnOf "is_fraction" "is_fraction" (defArgs s_is_fraction) (defBody s_is_fraction) (defScope s_is_fraction) .none kV doc pm an cdv ct) ⟨us, []⟩ = pure ((["value"] : List Str).zip us) := fun _ _ _ _ _ _ us hl => match us, hl with | [_], _ => rfl
/-! ### lowest -/
abbrev s_lowest : Stmt := topS 12
theorem sc_lowest : FnScope ["numerator", "denominator", "common"] ["numerator", "denominator"] (defScope s_lowest) := ⟨rfl, rfl, rfl, by decide +kernel, rfl, by decide +kernel, by decide +kernel⟩
theorem bd_lowest : ∀ (kV doc pm : Value) (an : Option Addr) (cdv ct : Value) (us : List Value), us.length = (["numerator", "denominator"] : List Str).length → bindArgs (PySem.W.fnOf "lowest" "lowest" (defArgs s_lowest) (defBody s_lowest) (defScope s_lowest) .none kV doc pm an cdv ct) ⟨us, []⟩ = pure ((["numerator", "denominator"] : List Str).zip us) := fun _ _ _ _ _ _ us hl => match us, hl with | [_, _], _ => rfl
/-! ### add -/
abbrev s_add : Stmt := topS 13
theorem sc_add : FnScope ["one", "other"] ["one", "other"] (defScope s_add) := ⟨rfl, rfl, rfl, by decide +kernel, rfl, by decide +kernel, by decide +kernel⟩
theorem bd_add : ∀ (kV doc pm : Value) (an : Option Addr) (cdv ct : Value) (us : List Value), us.length = (["one", "other"] : List Str).length → bindArgs (PySem.W.fnOf "add" "add" (defArgs s_add) (defBody s_add) (defScope s_add) .none kV doc pm an cdv ct) ⟨us, []⟩ = pure ((["one", "other"] : List Str).zip us) := fun _ _ _ _ _ _ us hl => match us, hl with | [_, _], _ => rfl
/-! ### subtract -/
abbrev s_subtract : Stmt := topS 14
theorem sc_subtract : FnScope ["one", "other"] ["one", "other"] (defScope s_subtract) := ⟨rfl, rfl, rfl, by decide +kernel, rfl, by decide +kernel, by decide +kernel⟩
theorem bd_subtract : ∀ (kV doc pm : Value) (an : Option Addr) (cdv ct : Value) (us : List Value), us.length = (["one", "other"] : List Str).length → bindArgs (PySem.W.fnOf "subtract" "subtract" (defArgs s_subtract) (defBody s_subtract) (defScope s_subtract) .none kV doc pm an cdv ct) ⟨us, []⟩ = pure ((["one", "other"] : List Str).zip us) := fun _ _ _ _ _ _ us hl => match us, hl with | [_, _], _ => rfl
/-! ### multiply -/
abbrev s_multiply : Stmt := topS 15
theorem sc_multiply : FnScope ["one", "other"] ["one", "other"] (defScope s_multiply) := ⟨rfl, rfl, rfl, by decide +kernel, rfl, by decide +kernel, by decide +kernel⟩
theorem bd_multiply : ∀ (kV doc pm : Value) (an : Option Addr) (cdv ct : Value) (us : List Value), us.length = (["one", "other"] : List Str).length → bindArgs (PySem.W.fnOf "multiply" "multiply" (defArgs s_multiply) (defBody s_multiply) (defScope s_multiply) .none kV doc pm an cdv ct) ⟨us, []⟩ = pure ((["one", "other"] : List Str).zip us) := fun _ _ _ _ _ _ us hl => match us, hl with | [_, _], _ => rfl
/-! ### divide -/
abbrev s_divide : Stmt := topS 16
theorem sc_divide : FnScope ["one", "other"] ["one", "other"] (defScope s_divide) := ⟨rfl, rfl, rfl, by decide +kernel, rfl, by decide +kernel, by decide +kernel⟩
theorem bd_divide : ∀ (kV doc pm : Value) (an : Option Addr) (cdv ct : Value) (us : List Value), us.length = (["one", "other"] : List Str).length → bindArgs (PySem.W.fnOf "divide" "divide" (defArgs s_divide) (defBody s_divide) (defScope s_divide) .none kV doc pm an cdv ct) ⟨us, []⟩ = pure ((["one", "other"] : List Str).zip us) := fun _ _ _ _ _ _ us hl => match us, hl with | [_, _], _ => rfl
/-! ### compare -/
abbrev s_compare : Stmt := topS 17
theorem sc_compare : FnScope ["one", "other", "left", "right"] ["one", "other"] (defScope s_compare) := ⟨rfl, rfl, rfl, by decide +kernel, rfl, by decide +kernel, by decide +kernel⟩
theorem bd_compare : ∀ (kV doc pm : Value) (an : Option Addr) (cdv ct : Value) (us : List Value), us.length = (["one", "other"] : List Str).length → bindArgs (PySem.W.fnOf "compare" "compare" (defArgs s_compare) (defBody s_compare) (defScope s_compare) .none kV doc pm an cdv ct) ⟨us, []⟩ = pure ((["one", "other"] : List Str).zip us) := fun _ _ _ _ _ _ us hl => match us, hl with | [_, _], _ => rfl
/-! ### is_less -/
abbrev s_is_less : Stmt := topS 18
theorem sc_is_less : FnScope ["one", "other"] ["one", "other"] (defScope s_is_less) := ⟨rfl, rfl, rfl, by decide +kernel, rfl, by decide +kernel, by decide +kernel⟩
theorem bd_is_less : ∀ (kV doc pm : Value) (an : Option Addr) (cdv ct : Value) (us : List Value), us.length = (["one", "other"] : List Str).length → bindArgs (PySem.W.fnOf "is_less" "is_less" (defArgs s_is_less) (defBody s_is_less) (defScope s_is_less) .none kV doc pm an cdv ct) ⟨us, []⟩ = pure ((["one", "other"] : List Str).zip us) := fun _ _ _ _ _ _ us hl => match us, hl with | [_, _], _ => rfl
/-! ### total -/
abbrev s_total : Stmt := topS 19
theorem sc_total : FnScope ["items", "found", "item"] ["items"] (defScope s_total) := ⟨rfl, rfl, rfl, by decide +kernel, rfl, by decide +kernel, by decide +kernel⟩
theorem bd_total : ∀ (kV doc pm : Value) (an : Option Addr) (cdv ct : Value) (us : List Value), us.length = (["items"] : List Str).length → bindArgs (PySem.W.fnOf "total" "total" (defArgs s_total) (defBody s_total) (defScope s_total) .none kV doc pm an cdv ct) ⟨us, []⟩ = pure ((["items"] : List Str).zip us) := fun _ _ _ _ _ _ us hl => match us, hl with | [_], _ => rfl
/-! ### greatest -/
abbrev s_greatest : Stmt := topS 20
theorem sc_greatest : FnScope ["items", "found", "item"] ["items"] (defScope s_greatest) := ⟨rfl, rfl, rfl, by decide +kernel, rfl, by decide +kernel, by decide +kernel⟩
theorem bd_greatest : ∀ (kV doc pm : Value) (an : Option Addr) (cdv ct : Value) (us : List Value), us.length = (["items"] : List Str).length → bindArgs (PySem.W.fnOf "greatest" "greatest" (defArgs s_greatest) (defBody s_greatest) (defScope s_greatest) .none kV doc pm an cdv ct) ⟨us, []⟩ = pure ((["items"] : List Str).zip us) := fun _ _ _ _ _ _ us hl => match us, hl with | [_], _ => rfl
/-! ### is_probability -/
abbrev s_is_probability : Stmt := topS 21
theorem sc_is_probability : FnScope ["value"] ["value"] (defScope s_is_probability) := ⟨rfl, rfl, rfl, by decide +kernel, rfl, by decide +kernel, by decide +kernel⟩
theorem bd_is_probability : ∀ (kV doc pm : Value) (an : Option Addr) (cdv ct : Value) (us : List Value), us.length = (["value"] : List Str).length → bindArgs (PySem.W.fnOf "is_probability" "is_probability" (defArgs s_is_probability) (defBody s_is_probability) (defScope s_is_probability) .none kV doc pm an cdv ct) ⟨us, []⟩ = pure ((["value"] : List Str).zip us) := fun _ _ _ _ _ _ us hl => match us, hl with | [_], _ => rfl
/-! ### is_distribution -/
abbrev s_is_distribution : Stmt := topS 23
theorem sc_is_distribution : FnScope ["size", "value", "item"] ["size", "value"] (defScope s_is_distribution) := ⟨rfl, rfl, rfl, by decide +kernel, rfl, by decide +kernel, by decide +kernel⟩
theorem bd_is_distribution : ∀ (kV doc pm : Value) (an : Option Addr) (cdv ct : Value) (us : List Value), us.length = (["size", "value"] : List Str).length → bindArgs (PySem.W.fnOf "is_distribution" "is_distribution" (defArgs s_is_distribution) (defBody s_is_distribution) (defScope s_is_distribution) .none kV doc pm an cdv ct) ⟨us, []⟩ = pure ((["size", "value"] : List Str).zip us) := fun _ _ _ _ _ _ us hl => match us, hl with | [_, _], _ => rfl
/-! ### check_distributions -/
abbrev s_check_distributions : Stmt := topS 27
theorem sc_check_distributions : FnScope ["one", "other", "size"] ["one", "other"] (defScope s_check_distributions) := ⟨rfl, rfl, rfl, by decide +kernel, rfl, by decide +kernel, by decide +kernel⟩
theorem bd_check_distributions : ∀ (kV doc pm : Value) (an : Option Addr) (cdv ct : Value) (us : List Value), us.length = (["one", "other"] : List Str).length → bindArgs (PySem.W.fnOf "check_distributions" "check_distributions" (defArgs s_check_distributions) (defBody s_check_distributions) (defScope s_check_distributions) .none kV doc pm an cdv ct) ⟨us, []⟩ = pure ((["one", "other"] : List Str).zip us) := fun _ _ _ _ _ _ us hl => match us, hl with | [_, _], _ => rfl
/-! ### gap -/
abbrev s_gap : Stmt := topS 28
theorem sc_gap : FnScope ["one", "other", "numerator", "denominator"] ["one", "other"] (defScope s_gap) := ⟨rfl, rfl, rfl, by decide +kernel, rfl, by decide +kernel, by decide +kernel⟩
theorem bd_gap : ∀ (kV doc pm : Value) (an : Option Addr) (cdv ct : Value) (us : List Value), us.length = (["one", "other"] : List Str).length → bindArgs (PySem.W.fnOf "gap" "gap" (defArgs s_gap) (defBody s_gap) (defScope s_gap) .none kV doc pm an cdv ct) ⟨us, []⟩ = pure ((["one", "other"] : List Str).zip us) := fun _ _ _ _ _ _ us hl => match us, hl with | [_, _], _ => rfl
/-! ### variation_of -/
abbrev s_variation_of : Stmt := topS 29
theorem sc_variation_of : FnScope ["one", "other", "left", "right"] ["one", "other"] (defScope s_variation_of) := ⟨rfl, rfl, rfl, by decide +kernel, rfl, by decide +kernel, by decide +kernel⟩
theorem bd_variation_of : ∀ (kV doc pm : Value) (an : Option Addr) (cdv ct : Value) (us : List Value), us.length = (["one", "other"] : List Str).length → bindArgs (PySem.W.fnOf "variation_of" "variation_of" (defArgs s_variation_of) (defBody s_variation_of) (defScope s_variation_of) .none kV doc pm an cdv ct) ⟨us, []⟩ = pure ((["one", "other"] : List Str).zip us) := fun _ _ _ _ _ _ us hl => match us, hl with | [_, _], _ => rfl
/-! ### variation -/
abbrev s_variation : Stmt := topS 30
theorem sc_variation : FnScope ["one", "other"] ["one", "other"] (defScope s_variation) := ⟨rfl, rfl, rfl, by decide +kernel, rfl, by decide +kernel, by decide +kernel⟩
theorem bd_variation : ∀ (kV doc pm : Value) (an : Option Addr) (cdv ct : Value) (us : List Value), us.length = (["one", "other"] : List Str).length → bindArgs (PySem.W.fnOf "variation" "variation" (defArgs s_variation) (defBody s_variation) (defScope s_variation) .none kV doc pm an cdv ct) ⟨us, []⟩ = pure ((["one", "other"] : List Str).zip us) := fun _ _ _ _ _ _ us hl => match us, hl with | [_, _], _ => rfl
/-! ### best_event -/
abbrev s_best_event : Stmt := topS 31
theorem sc_best_event : FnScope ["one", "other", "state", "left"] ["one", "other"] (defScope s_best_event) := ⟨rfl, rfl, rfl, by decide +kernel, rfl, by decide +kernel, by decide +kernel⟩
theorem bd_best_event : ∀ (kV doc pm : Value) (an : Option Addr) (cdv ct : Value) (us : List Value), us.length = (["one", "other"] : List Str).length → bindArgs (PySem.W.fnOf "best_event" "best_event" (defArgs s_best_event) (defBody s_best_event) (defScope s_best_event) .none kV doc pm an cdv ct) ⟨us, []⟩ = pure ((["one", "other"] : List Str).zip us) := fun _ _ _ _ _ _ us hl => match us, hl with | [_, _], _ => rfl
/-! ### separation -/
abbrev s_separation : Stmt := topS 32
theorem sc_separation : FnScope ["one", "other", "pairs", "left", "right"] ["one", "other"] (defScope s_separation) := ⟨rfl, rfl, rfl, by decide +kernel, rfl, by decide +kernel, by decide +kernel⟩
theorem bd_separation : ∀ (kV doc pm : Value) (an : Option Addr) (cdv ct : Value) (us : List Value), us.length = (["one", "other"] : List Str).length → bindArgs (PySem.W.fnOf "separation" "separation" (defArgs s_separation) (defBody s_separation) (defScope s_separation) .none kV doc pm an cdv ct) ⟨us, []⟩ = pure ((["one", "other"] : List Str).zip us) := fun _ _ _ _ _ _ us hl => match us, hl with | [_, _], _ => rfl
/-! ### _law_cell -/
abbrev s_law_cell : Stmt := topS 34
theorem sc_law_cell : FnScope ["script", "k"] ["script", "k"] (defScope s_law_cell) := ⟨rfl, rfl, rfl, by decide +kernel, rfl, by decide +kernel, by decide +kernel⟩
theorem bd_law_cell : ∀ (kV doc pm : Value) (an : Option Addr) (cdv ct : Value) (us : List Value), us.length = (["script", "k"] : List Str).length → bindArgs (PySem.W.fnOf "_law_cell" "_law_cell" (defArgs s_law_cell) (defBody s_law_cell) (defScope s_law_cell) .none kV doc pm an cdv ct) ⟨us, []⟩ = pure ((["script", "k"] : List Str).zip us) := fun _ _ _ _ _ _ us hl => match us, hl with | [_, _], _ => rfl
/-! ### _law_box -/
abbrev s_law_box : Stmt := topS 35
theorem sc_law_box : FnScope ["great"] ["great"] (defScope s_law_box) := ⟨rfl, rfl, rfl, by decide +kernel, rfl, by decide +kernel, by decide +kernel⟩
theorem bd_law_box : ∀ (kV doc pm : Value) (an : Option Addr) (cdv ct : Value) (us : List Value), us.length = (["great"] : List Str).length → bindArgs (PySem.W.fnOf "_law_box" "_law_box" (defArgs s_law_box) (defBody s_law_box) (defScope s_law_box) .none kV doc pm an cdv ct) ⟨us, []⟩ = pure ((["great"] : List Str).zip us) := fun _ _ _ _ _ _ us hl => match us, hl with | [_], _ => rfl
/-! ### _law_take -/
abbrev s_law_take : Stmt := topS 36
theorem sc_law_take : FnScope ["box", "many", "mixed", "digit"] ["box", "many"] (defScope s_law_take) := ⟨rfl, rfl, rfl, by decide +kernel, rfl, by decide +kernel, by decide +kernel⟩
theorem bd_law_take : ∀ (kV doc pm : Value) (an : Option Addr) (cdv ct : Value) (us : List Value), us.length = (["box", "many"] : List Str).length → bindArgs (PySem.W.fnOf "_law_take" "_law_take" (defArgs s_law_take) (defBody s_law_take) (defScope s_law_take) .none kV doc pm an cdv ct) ⟨us, []⟩ = pure ((["box", "many"] : List Str).zip us) := fun _ _ _ _ _ _ us hl => match us, hl with | [_, _], _ => rfl
/-! ### _law_same -/
abbrev s_law_same : Stmt := topS 37
theorem sc_law_same : FnScope ["told", "due", "k"] ["told", "due"] (defScope s_law_same) := ⟨rfl, rfl, rfl, by decide +kernel, rfl, by decide +kernel, by decide +kernel⟩
theorem bd_law_same : ∀ (kV doc pm : Value) (an : Option Addr) (cdv ct : Value) (us : List Value), us.length = (["told", "due"] : List Str).length → bindArgs (PySem.W.fnOf "_law_same" "_law_same" (defArgs s_law_same) (defBody s_law_same) (defScope s_law_same) .none kV doc pm an cdv ct) ⟨us, []⟩ = pure ((["told", "due"] : List Str).zip us) := fun _ _ _ _ _ _ us hl => match us, hl with | [_, _], _ => rfl
/-! ### _law_gcd -/
abbrev s_law_gcd : Stmt := topS 38
theorem sc_law_gcd : FnScope ["a", "b"] ["a", "b"] (defScope s_law_gcd) := ⟨rfl, rfl, rfl, by decide +kernel, rfl, by decide +kernel, by decide +kernel⟩
theorem bd_law_gcd : ∀ (kV doc pm : Value) (an : Option Addr) (cdv ct : Value) (us : List Value), us.length = (["a", "b"] : List Str).length → bindArgs (PySem.W.fnOf "_law_gcd" "_law_gcd" (defArgs s_law_gcd) (defBody s_law_gcd) (defScope s_law_gcd) .none kV doc pm an cdv ct) ⟨us, []⟩ = pure ((["a", "b"] : List Str).zip us) := fun _ _ _ _ _ _ us hl => match us, hl with | [_, _], _ => rfl
/-! ### _law_low -/
abbrev s_law_low : Stmt := topS 39
theorem sc_law_low : FnScope ["top", "bottom", "by"] ["top", "bottom"] (defScope s_law_low) := ⟨rfl, rfl, rfl, by decide +kernel, rfl, by decide +kernel, by decide +kernel⟩
theorem bd_law_low : ∀ (kV doc pm : Value) (an : Option Addr) (cdv ct : Value) (us : List Value), us.length = (["top", "bottom"] : List Str).length → bindArgs (PySem.W.fnOf "_law_low" "_law_low" (defArgs s_law_low) (defBody s_law_low) (defScope s_law_low) .none kV doc pm an cdv ct) ⟨us, []⟩ = pure ((["top", "bottom"] : List Str).zip us) := fun _ _ _ _ _ _ us hl => match us, hl with | [_, _], _ => rfl
/-! ### _law_add -/
abbrev s_law_add : Stmt := topS 40
theorem sc_law_add : FnScope ["one", "other"] ["one", "other"] (defScope s_law_add) := ⟨rfl, rfl, rfl, by decide +kernel, rfl, by decide +kernel, by decide +kernel⟩
theorem bd_law_add : ∀ (kV doc pm : Value) (an : Option Addr) (cdv ct : Value) (us : List Value), us.length = (["one", "other"] : List Str).length → bindArgs (PySem.W.fnOf "_law_add" "_law_add" (defArgs s_law_add) (defBody s_law_add) (defScope s_law_add) .none kV doc pm an cdv ct) ⟨us, []⟩ = pure ((["one", "other"] : List Str).zip us) := fun _ _ _ _ _ _ us hl => match us, hl with | [_, _], _ => rfl
/-! ### _law_less -/
abbrev s_law_less : Stmt := topS 41
theorem sc_law_less : FnScope ["one", "other"] ["one", "other"] (defScope s_law_less) := ⟨rfl, rfl, rfl, by decide +kernel, rfl, by decide +kernel, by decide +kernel⟩
theorem bd_law_less : ∀ (kV doc pm : Value) (an : Option Addr) (cdv ct : Value) (us : List Value), us.length = (["one", "other"] : List Str).length → bindArgs (PySem.W.fnOf "_law_less" "_law_less" (defArgs s_law_less) (defBody s_law_less) (defScope s_law_less) .none kV doc pm an cdv ct) ⟨us, []⟩ = pure ((["one", "other"] : List Str).zip us) := fun _ _ _ _ _ _ us hl => match us, hl with | [_, _], _ => rfl
/-! ### _law_mul -/
abbrev s_law_mul : Stmt := topS 42
theorem sc_law_mul : FnScope ["one", "other"] ["one", "other"] (defScope s_law_mul) := ⟨rfl, rfl, rfl, by decide +kernel, rfl, by decide +kernel, by decide +kernel⟩
theorem bd_law_mul : ∀ (kV doc pm : Value) (an : Option Addr) (cdv ct : Value) (us : List Value), us.length = (["one", "other"] : List Str).length → bindArgs (PySem.W.fnOf "_law_mul" "_law_mul" (defArgs s_law_mul) (defBody s_law_mul) (defScope s_law_mul) .none kV doc pm an cdv ct) ⟨us, []⟩ = pure ((["one", "other"] : List Str).zip us) := fun _ _ _ _ _ _ us hl => match us, hl with | [_, _], _ => rfl
/-! ### _law_div -/
abbrev s_law_div : Stmt := topS 43
theorem sc_law_div : FnScope ["one", "other"] ["one", "other"] (defScope s_law_div) := ⟨rfl, rfl, rfl, by decide +kernel, rfl, by decide +kernel, by decide +kernel⟩
theorem bd_law_div : ∀ (kV doc pm : Value) (an : Option Addr) (cdv ct : Value) (us : List Value), us.length = (["one", "other"] : List Str).length → bindArgs (PySem.W.fnOf "_law_div" "_law_div" (defArgs s_law_div) (defBody s_law_div) (defScope s_law_div) .none kV doc pm an cdv ct) ⟨us, []⟩ = pure ((["one", "other"] : List Str).zip us) := fun _ _ _ _ _ _ us hl => match us, hl with | [_, _], _ => rfl
/-! ### _law_sum -/
abbrev s_law_sum : Stmt := topS 44
theorem sc_law_sum : FnScope ["items", "found", "item"] ["items"] (defScope s_law_sum) := ⟨rfl, rfl, rfl, by decide +kernel, rfl, by decide +kernel, by decide +kernel⟩
theorem bd_law_sum : ∀ (kV doc pm : Value) (an : Option Addr) (cdv ct : Value) (us : List Value), us.length = (["items"] : List Str).length → bindArgs (PySem.W.fnOf "_law_sum" "_law_sum" (defArgs s_law_sum) (defBody s_law_sum) (defScope s_law_sum) .none kV doc pm an cdv ct) ⟨us, []⟩ = pure ((["items"] : List Str).zip us) := fun _ _ _ _ _ _ us hl => match us, hl with | [_], _ => rfl
/-! ### _law_below -/
abbrev s_law_below : Stmt := topS 45
theorem sc_law_below : FnScope ["one", "other"] ["one", "other"] (defScope s_law_below) := ⟨rfl, rfl, rfl, by decide +kernel, rfl, by decide +kernel, by decide +kernel⟩
theorem bd_law_below : ∀ (kV doc pm : Value) (an : Option Addr) (cdv ct : Value) (us : List Value), us.length = (["one", "other"] : List Str).length → bindArgs (PySem.W.fnOf "_law_below" "_law_below" (defArgs s_law_below) (defBody s_law_below) (defScope s_law_below) .none kV doc pm an cdv ct) ⟨us, []⟩ = pure ((["one", "other"] : List Str).zip us) := fun _ _ _ _ _ _ us hl => match us, hl with | [_, _], _ => rfl
/-! ### _law_shares -/
abbrev s_law_shares : Stmt := topS 46
theorem sc_law_shares : FnScope ["weights", "total_v", "w"] ["weights"] (defScope s_law_shares) := ⟨rfl, rfl, rfl, by decide +kernel, rfl, by decide +kernel, by decide +kernel⟩
theorem bd_law_shares : ∀ (kV doc pm : Value) (an : Option Addr) (cdv ct : Value) (us : List Value), us.length = (["weights"] : List Str).length → bindArgs (PySem.W.fnOf "_law_shares" "_law_shares" (defArgs s_law_shares) (defBody s_law_shares) (defScope s_law_shares) .none kV doc pm an cdv ct) ⟨us, []⟩ = pure ((["weights"] : List Str).zip us) := fun _ _ _ _ _ _ us hl => match us, hl with | [_], _ => rfl
/-! ### _law_weights -/
abbrev s_law_weights : Stmt := topS 47
theorem sc_law_weights : FnScope ["box", "many", "odds", "found", "k"] ["box", "many", "odds"] (defScope s_law_weights) := ⟨rfl, rfl, rfl, by decide +kernel, rfl, by decide +kernel, by decide +kernel⟩
theorem bd_law_weights : ∀ (kV doc pm : Value) (an : Option Addr) (cdv ct : Value) (us : List Value), us.length = (["box", "many", "odds"] : List Str).length → bindArgs (PySem.W.fnOf "_law_weights" "_law_weights" (defArgs s_law_weights) (defBody s_law_weights) (defScope s_law_weights) .none kV doc pm an cdv ct) ⟨us, []⟩ = pure ((["box", "many", "odds"] : List Str).zip us) := fun _ _ _ _ _ _ us hl => match us, hl with | [_, _, _], _ => rfl
/-! ### _law_vary -/
abbrev s_law_vary : Stmt := topS 48
theorem sc_law_vary : FnScope ["one", "other", "found", "a", "b", "gap_v"] ["one", "other"] (defScope s_law_vary) := ⟨rfl, rfl, rfl, by decide +kernel, rfl, by decide +kernel, by decide +kernel⟩
theorem bd_law_vary : ∀ (kV doc pm : Value) (an : Option Addr) (cdv ct : Value) (us : List Value), us.length = (["one", "other"] : List Str).length → bindArgs (PySem.W.fnOf "_law_vary" "_law_vary" (defArgs s_law_vary) (defBody s_law_vary) (defScope s_law_vary) .none kV doc pm an cdv ct) ⟨us, []⟩ = pure ((["one", "other"] : List Str).zip us) := fun _ _ _ _ _ _ us hl => match us, hl with | [_, _], _ => rfl
/-! ### _law_pair -/
abbrev s_law_pair : Stmt := topS 49
theorem sc_law_pair : FnScope ["box", "size", "one", "way", "weights", "cut", "low", "high", "top", "bottom", "k"] ["box", "size"] (defScope s_law_pair) := ⟨rfl, rfl, rfl, by decide +kernel, rfl, by decide +kernel, by decide +kernel⟩
theorem bd_law_pair : ∀ (kV doc pm : Value) (an : Option Addr) (cdv ct : Value) (us : List Value), us.length = (["box", "size"] : List Str).length → bindArgs (PySem.W.fnOf "_law_pair" "_law_pair" (defArgs s_law_pair) (defBody s_law_pair) (defScope s_law_pair) .none kV doc pm an cdv ct) ⟨us, []⟩ = pure ((["box", "size"] : List Str).zip us) := fun _ _ _ _ _ _ us hl => match us, hl with | [_, _], _ => rfl
/-! ### _law_event -/
abbrev s_law_event : Stmt := topS 50
theorem sc_law_event : FnScope ["one", "other", "members", "k"] ["one", "other", "members"] (defScope s_law_event) := ⟨rfl, rfl, rfl, by decide +kernel, rfl, by decide +kernel, by decide +kernel⟩
theorem bd_law_event : ∀ (kV doc pm : Value) (an : Option Addr) (cdv ct : Value) (us : List Value), us.length = (["one", "other", "members"] : List Str).length → bindArgs (PySem.W.fnOf "_law_event" "_law_event" (defArgs s_law_event) (defBody s_law_event) (defScope s_law_event) .none kV doc pm an cdv ct) ⟨us, []⟩ = pure ((["one", "other", "members"] : List Str).zip us) := fun _ _ _ _ _ _ us hl => match us, hl with | [_, _, _], _ => rfl
/-! ### _law_greatest -/
abbrev s_law_greatest : Stmt := topS 51
theorem sc_law_greatest : FnScope ["one", "other", "best", "mask", "gap_v", "k"] ["one", "other"] (defScope s_law_greatest) := ⟨rfl, rfl, rfl, by decide +kernel, rfl, by decide +kernel, by decide +kernel⟩
theorem bd_law_greatest : ∀ (kV doc pm : Value) (an : Option Addr) (cdv ct : Value) (us : List Value), us.length = (["one", "other"] : List Str).length → bindArgs (PySem.W.fnOf "_law_greatest" "_law_greatest" (defArgs s_law_greatest) (defBody s_law_greatest) (defScope s_law_greatest) .none kV doc pm an cdv ct) ⟨us, []⟩ = pure ((["one", "other"] : List Str).zip us) := fun _ _ _ _ _ _ us hl => match us, hl with | [_, _], _ => rfl
/-! ### _law_apart -/
abbrev s_law_apart : Stmt := topS 52
theorem sc_law_apart : FnScope ["one", "other", "found", "a", "b", "gap_v"] ["one", "other"] (defScope s_law_apart) := ⟨rfl, rfl, rfl, by decide +kernel, rfl, by decide +kernel, by decide +kernel⟩
theorem bd_law_apart : ∀ (kV doc pm : Value) (an : Option Addr) (cdv ct : Value) (us : List Value), us.length = (["one", "other"] : List Str).length → bindArgs (PySem.W.fnOf "_law_apart" "_law_apart" (defArgs s_law_apart) (defBody s_law_apart) (defScope s_law_apart) .none kV doc pm an cdv ct) ⟨us, []⟩ = pure ((["one", "other"] : List Str).zip us) := fun _ _ _ _ _ _ us hl => match us, hl with | [_, _], _ => rfl
/-! ### _law_is_set -/
abbrev s_law_is_set : Stmt := topS 53
theorem sc_law_is_set : FnScope ["size", "value", "k"] ["size", "value"] (defScope s_law_is_set) := ⟨rfl, rfl, rfl, by decide +kernel, rfl, by decide +kernel, by decide +kernel⟩
theorem bd_law_is_set : ∀ (kV doc pm : Value) (an : Option Addr) (cdv ct : Value) (us : List Value), us.length = (["size", "value"] : List Str).length → bindArgs (PySem.W.fnOf "_law_is_set" "_law_is_set" (defArgs s_law_is_set) (defBody s_law_is_set) (defScope s_law_is_set) .none kV doc pm an cdv ct) ⟨us, []⟩ = pure ((["size", "value"] : List Str).zip us) := fun _ _ _ _ _ _ us hl => match us, hl with | [_, _], _ => rfl
/-! ### _law_asked -/
abbrev s_law_asked : Stmt := topS 54
theorem sc_law_asked : FnScope ["turn", "one", "other", "named", "e"] ["turn", "one", "other", "named"] (defScope s_law_asked) := ⟨rfl, rfl, rfl, by decide +kernel, rfl, by decide +kernel, by decide +kernel⟩
theorem bd_law_asked : ∀ (kV doc pm : Value) (an : Option Addr) (cdv ct : Value) (us : List Value), us.length = (["turn", "one", "other", "named"] : List Str).length → bindArgs (PySem.W.fnOf "_law_asked" "_law_asked" (defArgs s_law_asked) (defBody s_law_asked) (defScope s_law_asked) .none kV doc pm an cdv ct) ⟨us, []⟩ = pure ((["turn", "one", "other", "named"] : List Str).zip us) := fun _ _ _ _ _ _ us hl => match us, hl with | [_, _, _, _], _ => rfl
/-! ### _law_near -/
abbrev s_law_near : Stmt := topS 55
theorem sc_law_near : FnScope ["box", "one", "size", "at", "top", "bottom", "menu", "other", "row"] ["box", "one"] (defScope s_law_near) := ⟨rfl, rfl, rfl, by decide +kernel, rfl, by decide +kernel, by decide +kernel⟩
theorem bd_law_near : ∀ (kV doc pm : Value) (an : Option Addr) (cdv ct : Value) (us : List Value), us.length = (["box", "one"] : List Str).length → bindArgs (PySem.W.fnOf "_law_near" "_law_near" (defArgs s_law_near) (defBody s_law_near) (defScope s_law_near) .none kV doc pm an cdv ct) ⟨us, []⟩ = pure ((["box", "one"] : List Str).zip us) := fun _ _ _ _ _ _ us hl => match us, hl with | [_, _], _ => rfl
/-! ### _law_refusals_right -/
abbrev s_law_refusals_right : Stmt := topS 56
theorem sc_law_refusals_right : FnScope ["box", "one", "other", "turn", "first", "second"] ["box", "one", "other"] (defScope s_law_refusals_right) := ⟨rfl, rfl, rfl, by decide +kernel, rfl, by decide +kernel, by decide +kernel⟩
theorem bd_law_refusals_right : ∀ (kV doc pm : Value) (an : Option Addr) (cdv ct : Value) (us : List Value), us.length = (["box", "one", "other"] : List Str).length → bindArgs (PySem.W.fnOf "_law_refusals_right" "_law_refusals_right" (defArgs s_law_refusals_right) (defBody s_law_refusals_right) (defScope s_law_refusals_right) .none kV doc pm an cdv ct) ⟨us, []⟩ = pure ((["box", "one", "other"] : List Str).zip us) := fun _ _ _ _ _ _ us hl => match us, hl with | [_, _, _], _ => rfl
/-! ### _law_right -/
abbrev s_law_right : Stmt := topS 57
theorem sc_law_right : FnScope ["box", "size", "one", "other", "far", "most", "turn", "left", "right", "named", "told"] ["box"] (defScope s_law_right) := ⟨rfl, rfl, rfl, by decide +kernel, rfl, by decide +kernel, by decide +kernel⟩
theorem bd_law_right : ∀ (kV doc pm : Value) (an : Option Addr) (cdv ct : Value) (us : List Value), us.length = (["box"] : List Str).length → bindArgs (PySem.W.fnOf "_law_right" "_law_right" (defArgs s_law_right) (defBody s_law_right) (defScope s_law_right) .none kV doc pm an cdv ct) ⟨us, []⟩ = pure ((["box"] : List Str).zip us) := fun _ _ _ _ _ _ us hl => match us, hl with | [_], _ => rfl
/-! ### law -/
abbrev s_law : Stmt := topS 58
theorem sc_law : FnScope ["script", "k", "box"] ["script"] (defScope s_law) := ⟨rfl, rfl, rfl, by decide +kernel, rfl, by decide +kernel, by decide +kernel⟩
theorem bd_law : ∀ (kV doc pm : Value) (an : Option Addr) (cdv ct : Value) (us : List Value), us.length = (["script"] : List Str).length → bindArgs (PySem.W.fnOf "law" "law" (defArgs s_law) (defBody s_law) (defScope s_law) .none kV doc pm an cdv ct) ⟨us, []⟩ = pure ((["script"] : List Str).zip us) := fun _ _ _ _ _ _ us hl => match us, hl with | [_], _ => rfl
theorem kb_variation_0_other_one : KBx "variation" s_variation ["one", "other"] 0 ["other", "one"] [1, 0] := fun _ _ _ _ _ _ us ws h1 h2 => match us, h1, ws, h2 with | [], _, [_, _], _ => rfl
theorem kb_best_event_0_other_one : KBx "best_event" s_best_event ["one", "other"] 0 ["other", "one"] [1, 0] := fun _ _ _ _ _ _ us ws h1 h2 => match us, h1, ws, h2 with | [], _, [_, _], _ => rfl
theorem kb_separation_0_other_one : KBx "separation" s_separation ["one", "other"] 0 ["other", "one"] [1, 0] := fun _ _ _ _ _ _ us ws h1 h2 => match us, h1, ws, h2 with | [], _, [_, _], _ => rfl
section
variable {P : Program} {w : World} {K : PySem.W.Frag} {mg : Str → Option Value} {base : Heap}
theorem wk_is_integer (m_bool : mg "bool" = none) (m_isinstance : mg "isinstance" = none) (m_int : mg "int" = none) : Walk P w K mg base ["value"] "is_integer" s_is_integer 0 (t_is_integer) := by
 intro f cdv A outer s H E hr tk ps
 refine jss_one ?_
 · refine js_ret ?_
   · refine j_and ?_ ?_
     · refine j_callB call_isi rs_isi (by rfl) m_isinstance (by rfl) ?_
       · refine ja_cons ?_ ?_
         · exact jv 0
         · refine ja_cons ?_ ?_
           · exact j_ty (by rfl) m_int (by rfl)
           · exact ja_nil
     · refine j_one ?_
       · refine j_not ?_
         · refine j_callB call_isi rs_isi (by rfl) m_isinstance (by rfl) ?_
           · refine ja_cons ?_ ?_
             · exact jv 0
             · refine ja_cons ?_ ?_
               · exact j_ty (by rfl) m_bool (by rfl)
               · exact ja_nil
theorem wk_is_tuple_of (m_len : mg "len" = none) (m_tuple : mg "tuple" = none) (m_isinstance : mg "isinstance" = none) : Walk P w K mg base ["value", "many"] "is_tuple_of" s_is_tuple_of 0 (t_is_tuple_of) := by
 intro f cdv A outer s H E hr tk ps
 refine jss_one ?_
 · refine js_ret ?_
   · refine j_and ?_ ?_
     · refine j_callB call_isi rs_isi (by rfl) m_isinstance (by rfl) ?_
       · refine ja_cons ?_ ?_
         · exact jv 0
         · refine ja_cons ?_ ?_
           · exact j_ty (by rfl) m_tuple (by rfl)
           · exact ja_nil
     · refine j_one ?_
       · refine j_cmp (op_eqD (u64 hr)) rs_eq ?_ ?_ (by rfl)
         · refine j_callB call_lenZ rs_len (by rfl) m_len (by rfl) ?_
           · refine ja_cons ?_ ?_
             · exact jv 0
             · exact ja_nil
         · exact jv 1
theorem wk_is_fraction {asp_is_integer : ASp} {asp_is_tuple_of : ASp} (c_is_integer : Cal P w K mg base "is_integer" s_is_integer ["value"] 1 asp_is_integer) (m_all : mg "all" = none) (c_is_tuple_of : Cal P w K mg base "is_tuple_of" s_is_tuple_of ["value", "many"] 1 asp_is_tuple_of) (m_gcd : mg "gcd" = some (.builtin "math.gcd")) : Walk P w K mg base ["value", "item"] "is_fraction" s_is_fraction 1 (t_is_fraction asp_is_integer asp_is_tuple_of) := by
 intro f cdv A outer s H E hr tk ps
 refine jss_cons ?_ ?_
 · refine js_if ?_ ?_ ?_
   · refine jt_bool ?_
     · refine jw_or ?_ ?_
       · refine jt_not ?_
         · refine jt ?_
           · refine j_call' tk c_is_tuple_of hr (by decide) (by rfl) ?_
             · refine ja_cons ?_ ?_
               · exact jv 0
               · refine ja_cons ?_ ?_
                 · exact j_int
                 · exact ja_nil
       · refine jw_or1 ?_
         · refine jt_not ?_
           · refine jt ?_
             · refine j_callB (cr_all (by rfl)) rs_all (by rfl) m_all (by rfl) ?_
               · refine ja_cons ?_ ?_
                 · refine j_lc (own := [("item", 1)]) false (by rfl) sc_is_fraction.nd ?_ (blkOk_by (N := ["value", "item"]) (sc := defScope s_is_fraction) (by first | decide +kernel | kernel_rfl)) (by decide) (fun _ _ _ _ _ => ?_) (fun _ _ _ _ _ => ?_) (fun _ _ _ _ _ => ?_)
                   · refine ji_seq ?_
                     · exact jv 0
                   · exact pg_name (i := 1) sc_is_fraction.nd (by rfl) (Or.inl (by rfl))
                   · exact jts_nil
                   · refine j_call' takes0 c_is_integer hr (by decide) (by rfl) ?_
                     · refine ja_cons ?_ ?_
                       · exact jv 1
                       · exact ja_nil
                 · exact ja_nil
   · refine jss_one ?_
     · refine js_ret ?_
       · exact j_bl
   · exact jss_nil
 · refine jss_one ?_
   · refine js_ret ?_
     · refine j_and ?_ ?_
       · refine j_cmp op_gtZ (rs_cmp _ _) ?_ ?_ (by rfl)
         · refine j_ix ix_seq rs_ix ?_ ?_ (fun _ _ => by rfl)
           · exact jv 0
           · exact j_int
         · exact j_int
       · refine j_one ?_
         · refine j_cmp (op_eqD (u64 hr)) rs_eq ?_ ?_ (by rfl)
           · refine j_callM cr_gcd rs_gcd (by rfl) m_gcd ?_
             · refine ja_cons ?_ ?_
               · refine j_ix ix_seq rs_ix ?_ ?_ (fun _ _ => by rfl)
                 · exact jv 0
                 · exact j_int
               · refine ja_cons ?_ ?_
                 · refine j_ix ix_seq rs_ix ?_ ?_ (fun _ _ => by rfl)
                   · exact jv 0
                   · exact j_int
                 · exact ja_nil
           · exact j_int
theorem wk_lowest (m_gcd : mg "gcd" = some (.builtin "math.gcd")) : Walk P w K mg base ["numerator", "denominator", "common"] "lowest" s_lowest 0 (t_lowest) := by
 intro f cdv A outer s H E hr tk ps
 refine jss_cons ?_ ?_
 · refine js_set (i := 2) sc_lowest.nd (by rfl) (.inl (by rfl)) ?_
   · refine j_callM cr_gcd rs_gcd (by rfl) m_gcd ?_
     · refine ja_cons ?_ ?_
       · exact jv 0
       · refine ja_cons ?_ ?_
         · exact jv 1
         · exact ja_nil
 · refine jss_cons ?_ ?_
   · refine js_if ?_ ?_ ?_
     · refine jt_cmp op_ltZ (rs_cmp _ _) ?_ ?_ (by rfl)
       · exact jv 1
       · exact j_int
     · refine jss_one ?_
       · refine js_set (i := 2) sc_lowest.nd (by rfl) (.inl (by rfl)) ?_
         · refine j_un un_neg rs_neg ?_
           · exact jv 2
     · exact jss_nil
   · refine jss_one ?_
     · refine js_ret ?_
       · refine j_tup ?_
         · refine ja_cons ?_ ?_
           · refine j_op op_fdivA rs_fdivA ?_ ?_
             · exact jv 0
             · exact jv 2
           · refine ja_cons ?_ ?_
             · refine j_op op_fdivA rs_fdivA ?_ ?_
               · exact jv 1
               · exact jv 2
             · exact ja_nil
theorem wk_add {asp_lowest : ASp} (c_lowest : Cal P w K mg base "lowest" s_lowest ["numerator", "denominator"] 1 asp_lowest) : Walk P w K mg base ["one", "other"] "add" s_add 1 (t_add asp_lowest) := by
 intro f cdv A outer s H E hr tk ps
 refine jss_one ?_
 · refine js_ret ?_
   · refine j_call' tk c_lowest hr (by decide) (by rfl) ?_
     · refine ja_cons ?_ ?_
       · refine j_op op_addZ (rs_add false) ?_ ?_
         · refine j_op op_mulZ (rs_mul false) ?_ ?_
           · refine j_ix ix_seq rs_ix ?_ ?_ (fun _ _ => by rfl)
             · exact jv 0
             · exact j_int
           · refine j_ix ix_seq rs_ix ?_ ?_ (fun _ _ => by rfl)
             · exact jv 1
             · exact j_int
         · refine j_op op_mulZ (rs_mul false) ?_ ?_
           · refine j_ix ix_seq rs_ix ?_ ?_ (fun _ _ => by rfl)
             · exact jv 1
             · exact j_int
           · refine j_ix ix_seq rs_ix ?_ ?_ (fun _ _ => by rfl)
             · exact jv 0
             · exact j_int
       · refine ja_cons ?_ ?_
         · refine j_op op_mulZ (rs_mul false) ?_ ?_
           · refine j_ix ix_seq rs_ix ?_ ?_ (fun _ _ => by rfl)
             · exact jv 0
             · exact j_int
           · refine j_ix ix_seq rs_ix ?_ ?_ (fun _ _ => by rfl)
             · exact jv 1
             · exact j_int
         · exact ja_nil
theorem wk_subtract {asp_lowest : ASp} (c_lowest : Cal P w K mg base "lowest" s_lowest ["numerator", "denominator"] 1 asp_lowest) : Walk P w K mg base ["one", "other"] "subtract" s_subtract 1 (t_subtract asp_lowest) := by
 intro f cdv A outer s H E hr tk ps
 refine jss_one ?_
 · refine js_ret ?_
   · refine j_call' tk c_lowest hr (by decide) (by rfl) ?_
     · refine ja_cons ?_ ?_
       · refine j_op op_sub rs_sub ?_ ?_
         · refine j_op op_mulZ (rs_mul false) ?_ ?_
           · refine j_ix ix_seq rs_ix ?_ ?_ (fun _ _ => by rfl)
             · exact jv 0
             · exact j_int
           · refine j_ix ix_seq rs_ix ?_ ?_ (fun _ _ => by rfl)
             · exact jv 1
             · exact j_int
         · refine j_op op_mulZ (rs_mul false) ?_ ?_
           · refine j_ix ix_seq rs_ix ?_ ?_ (fun _ _ => by rfl)
             · exact jv 1
             · exact j_int
           · refine j_ix ix_seq rs_ix ?_ ?_ (fun _ _ => by rfl)
             · exact jv 0
             · exact j_int
       · refine ja_cons ?_ ?_
         · refine j_op op_mulZ (rs_mul false) ?_ ?_
           · refine j_ix ix_seq rs_ix ?_ ?_ (fun _ _ => by rfl)
             · exact jv 0
             · exact j_int
           · refine j_ix ix_seq rs_ix ?_ ?_ (fun _ _ => by rfl)
             · exact jv 1
             · exact j_int
         · exact ja_nil
theorem wk_multiply {asp_lowest : ASp} (c_lowest : Cal P w K mg base "lowest" s_lowest ["numerator", "denominator"] 1 asp_lowest) : Walk P w K mg base ["one", "other"] "multiply" s_multiply 1 (t_multiply asp_lowest) := by
 intro f cdv A outer s H E hr tk ps
 refine jss_one ?_
 · refine js_ret ?_
   · refine j_call' tk c_lowest hr (by decide) (by rfl) ?_
     · refine ja_cons ?_ ?_
       · refine j_op op_mulZ (rs_mul false) ?_ ?_
         · refine j_ix ix_seq rs_ix ?_ ?_ (fun _ _ => by rfl)
           · exact jv 0
           · exact j_int
         · refine j_ix ix_seq rs_ix ?_ ?_ (fun _ _ => by rfl)
           · exact jv 1
           · exact j_int
       · refine ja_cons ?_ ?_
         · refine j_op op_mulZ (rs_mul false) ?_ ?_
           · refine j_ix ix_seq rs_ix ?_ ?_ (fun _ _ => by rfl)
             · exact jv 0
             · exact j_int
           · refine j_ix ix_seq rs_ix ?_ ?_ (fun _ _ => by rfl)
             · exact jv 1
             · exact j_int
         · exact ja_nil
theorem wk_divide {C_DividedByZero : Addr} {asp_lowest : ASp} (e_DividedByZero : Err0 K mg "DividedByZero" C_DividedByZero) (c_lowest : Cal P w K mg base "lowest" s_lowest ["numerator", "denominator"] 1 asp_lowest) : Walk P w K mg base ["one", "other"] "divide" s_divide 2 (t_divide C_DividedByZero asp_lowest) := by
 intro f cdv A outer s H E hr tk ps
 refine jss_cons ?_ ?_
 · refine js_if ?_ ?_ ?_
   · refine jt_cmp (op_eqD (u64 hr)) rs_eq ?_ ?_ (by rfl)
     · refine j_ix ix_seq rs_ix ?_ ?_ (fun _ _ => by rfl)
       · exact jv 1
       · exact j_int
     · exact j_int
   · refine jss_one ?_
     · exact js_raise0' (by rfl) tk e_DividedByZero (by rfl)
   · exact jss_nil
 · refine jss_one ?_
   · refine js_ret ?_
     · refine j_call' tk c_lowest hr (by decide) (by rfl) ?_
       · refine ja_cons ?_ ?_
         · refine j_op op_mulZ (rs_mul false) ?_ ?_
           · refine j_ix ix_seq rs_ix ?_ ?_ (fun _ _ => by rfl)
             · exact jv 0
             · exact j_int
           · refine j_ix ix_seq rs_ix ?_ ?_ (fun _ _ => by rfl)
             · exact jv 1
             · exact j_int
         · refine ja_cons ?_ ?_
           · refine j_op op_mulZ (rs_mul false) ?_ ?_
             · refine j_ix ix_seq rs_ix ?_ ?_ (fun _ _ => by rfl)
               · exact jv 0
               · exact j_int
             · refine j_ix ix_seq rs_ix ?_ ?_ (fun _ _ => by rfl)
               · exact jv 1
               · exact j_int
           · exact ja_nil
theorem wk_compare (m_int : mg "int" = none) : Walk P w K mg base ["one", "other", "left", "right"] "compare" s_compare 0 (t_compare) := by
 intro f cdv A outer s H E hr tk ps
 refine jss_cons ?_ ?_
 · refine js_par (i := 2) (j := 3) (by rfl) sc_compare.nd (by rfl) (by rfl) (by decide) (by rfl) (by rfl) ?_
   · refine ja_cons ?_ ?_
     · refine j_op op_mulZ (rs_mul false) ?_ ?_
       · refine j_ix ix_seq rs_ix ?_ ?_ (fun _ _ => by rfl)
         · exact jv 0
         · exact j_int
       · refine j_ix ix_seq rs_ix ?_ ?_ (fun _ _ => by rfl)
         · exact jv 1
         · exact j_int
     · refine ja_cons ?_ ?_
       · refine j_op op_mulZ (rs_mul false) ?_ ?_
         · refine j_ix ix_seq rs_ix ?_ ?_ (fun _ _ => by rfl)
           · exact jv 1
           · exact j_int
         · refine j_ix ix_seq rs_ix ?_ ?_ (fun _ _ => by rfl)
           · exact jv 0
           · exact j_int
       · exact ja_nil
 · refine jss_one ?_
   · refine js_ret ?_
     · refine j_op op_sub rs_sub ?_ ?_
       · refine j_callTy call_intZ rs_int (by rfl) m_int (by rfl) ?_
         · refine ja_cons ?_ ?_
           · refine j_cmp op_gtZ (rs_cmp _ _) ?_ ?_ (by rfl)
             · exact jv 2
             · exact jv 3
           · exact ja_nil
       · refine j_callTy call_intZ rs_int (by rfl) m_int (by rfl) ?_
         · refine ja_cons ?_ ?_
           · refine j_cmp op_ltZ (rs_cmp _ _) ?_ ?_ (by rfl)
             · exact jv 2
             · exact jv 3
           · exact ja_nil
theorem wk_is_less {asp_compare : ASp} (c_compare : Cal P w K mg base "compare" s_compare ["one", "other"] 1 asp_compare) : Walk P w K mg base ["one", "other"] "is_less" s_is_less 1 (t_is_less asp_compare) := by
 intro f cdv A outer s H E hr tk ps
 refine jss_one ?_
 · refine js_ret ?_
   · refine j_cmp op_ltZ (rs_cmp _ _) ?_ ?_ (by rfl)
     · refine j_call' tk c_compare hr (by decide) (by rfl) ?_
       · refine ja_cons ?_ ?_
         · exact jv 0
         · refine ja_cons ?_ ?_
           · exact jv 1
           · exact ja_nil
     · exact j_int
theorem wk_total {asp_add : ASp} (k_ZERO : ConstOk K mg "ZERO" (.tup [.int 0, .int 1])) (c_add : Cal P w K mg base "add" s_add ["one", "other"] 2 asp_add) : Walk P w K mg base ["items", "found", "item"] "total" s_total 2 (t_total asp_add) := by
 intro f cdv A outer s H E hr tk ps
 refine jss_cons ?_ ?_
 · refine js_set (i := 1) sc_total.nd (by rfl) (.inl (by rfl)) ?_
   · exact j_const (by rfl) k_ZERO
 · refine jss_cons ?_ ?_
   · refine js_for ps (by rfl) ?_ ?_ ?_
     · refine ji_seq ?_
       · exact jv 0
     · exact jg_name (i := 2) sc_total.nd (by rfl) (.inl (by rfl))
     · refine jss_one ?_
       · refine js_set (i := 1) sc_total.nd (by rfl) (.inl (by rfl)) ?_
         · refine j_call' tk c_add hr (by decide) (by rfl) ?_
           · refine ja_cons ?_ ?_
             · exact jv 1
             · refine ja_cons ?_ ?_
               · exact jv 2
               · exact ja_nil
   · refine jss_one ?_
     · refine js_ret ?_
       · exact jv 1
theorem wk_greatest {asp_is_less : ASp} (c_is_less : Cal P w K mg base "is_less" s_is_less ["one", "other"] 2 asp_is_less) : Walk P w K mg base ["items", "found", "item"] "greatest" s_greatest 2 (t_greatest asp_is_less) := by
 intro f cdv A outer s H E hr tk ps
 refine jss_cons ?_ ?_
 · refine js_set (i := 1) sc_greatest.nd (by rfl) (.inl (by rfl)) ?_
   · refine j_ix ix_seq rs_ix ?_ ?_ (fun _ _ => by rfl)
     · exact jv 0
     · exact j_int
 · refine jss_cons ?_ ?_
   · refine js_for ps (by rfl) ?_ ?_ ?_
     · refine ji_seq ?_
       · exact jv 0
     · exact jg_name (i := 2) sc_greatest.nd (by rfl) (.inl (by rfl))
     · refine jss_one ?_
       · refine js_set (i := 1) sc_greatest.nd (by rfl) (.inl (by rfl)) ?_
         · refine j_ifExp ?_ ?_ ?_
           · refine jt ?_
             · refine j_call' tk c_is_less hr (by decide) (by rfl) ?_
               · refine ja_cons ?_ ?_
                 · exact jv 1
                 · refine ja_cons ?_ ?_
                   · exact jv 2
                   · exact ja_nil
           · exact jv 2
           · exact jv 1
   · refine jss_one ?_
     · refine js_ret ?_
       · exact jv 1
theorem wk_is_probability {asp_is_fraction : ASp} (c_is_fraction : Cal P w K mg base "is_fraction" s_is_fraction ["value"] 2 asp_is_fraction) : Walk P w K mg base ["value"] "is_probability" s_is_probability 2 (t_is_probability asp_is_fraction) := by
 intro f cdv A outer s H E hr tk ps
 refine jss_one ?_
 · refine js_ret ?_
   · refine j_and ?_ ?_
     · refine j_call' tk c_is_fraction hr (by decide) (by rfl) ?_
       · refine ja_cons ?_ ?_
         · exact jv 0
         · exact ja_nil
     · refine j_one ?_
       · refine j_chain op_leZ op_leZ (rs_cmp _ _) (rs_cmp _ _) ?_ ?_ ?_
         · exact j_int
         · refine j_ix ix_seq rs_ix ?_ ?_ (fun _ _ => by rfl)
           · exact jv 0
           · exact j_int
         · refine j_ix ix_seq rs_ix ?_ ?_ (fun _ _ => by rfl)
           · exact jv 0
           · exact j_int
theorem wk_is_distribution {asp_total : ASp} {asp_is_probability : ASp} {asp_is_tuple_of : ASp} (c_total : Cal P w K mg base "total" s_total ["items"] 3 asp_total) (k_ONE : ConstOk K mg "ONE" (.tup [.int 1, .int 1])) (c_is_probability : Cal P w K mg base "is_probability" s_is_probability ["value"] 3 asp_is_probability) (m_all : mg "all" = none) (c_is_tuple_of : Cal P w K mg base "is_tuple_of" s_is_tuple_of ["value", "many"] 1 asp_is_tuple_of) : Walk P w K mg base ["size", "value", "item"] "is_distribution" s_is_distribution 3 (t_is_distribution asp_total asp_is_probability asp_is_tuple_of) := by
 intro f cdv A outer s H E hr tk ps
 refine jss_one ?_
 · refine js_ret ?_
   · refine j_and ?_ ?_
     · refine j_call' tk c_is_tuple_of hr (by decide) (by rfl) ?_
       · refine ja_cons ?_ ?_
         · exact jv 1
         · refine ja_cons ?_ ?_
           · exact jv 0
           · exact ja_nil
     · refine j_and ?_ ?_
       · refine j_callB (cr_all (by rfl)) rs_all (by rfl) m_all (by rfl) ?_
         · refine ja_cons ?_ ?_
           · refine j_lc (own := [("item", 2)]) false (by rfl) sc_is_distribution.nd ?_ (blkOk_by (N := ["size", "value", "item"]) (sc := defScope s_is_distribution) (by first | decide +kernel | kernel_rfl)) (by decide) (fun _ _ _ _ _ => ?_) (fun _ _ _ _ _ => ?_) (fun _ _ _ _ _ => ?_)
             · refine ji_seq ?_
               · exact jv 1
             · exact pg_name (i := 2) sc_is_distribution.nd (by rfl) (Or.inl (by rfl))
             · exact jts_nil
             · refine j_call' takes0 c_is_probability hr (by decide) (by rfl) ?_
               · refine ja_cons ?_ ?_
                 · exact jv 2
                 · exact ja_nil
           · exact ja_nil
       · refine j_one ?_
         · refine j_cmp (op_eqD (u64 hr)) rs_eq ?_ ?_ (by rfl)
           · refine j_call' tk c_total hr (by decide) (by rfl) ?_
             · refine ja_cons ?_ ?_
               · exact jv 1
               · exact ja_nil
           · exact j_const (by rfl) k_ONE
theorem wk_check_distributions {asp_is_distribution : ASp} {C_InvalidDistribution : Addr} (m_tuple : mg "tuple" = none) (m_isinstance : mg "isinstance" = none) (m_len : mg "len" = none) (c_is_distribution : Cal P w K mg base "is_distribution" s_is_distribution ["size", "value"] 4 asp_is_distribution) (k_MOST_STATES : ConstOk K mg "MOST_STATES" (.int 7)) (e_InvalidDistribution : Err1 P w K mg base "InvalidDistribution" "given" C_InvalidDistribution) : Walk P w K mg base ["one", "other", "size"] "check_distributions" s_check_distributions 4 (t_check_distributions asp_is_distribution C_InvalidDistribution) := by
 intro f cdv A outer s H E hr tk ps
 refine jss_cons ?_ ?_
 · refine js_set (i := 2) sc_check_distributions.nd (by rfl) (.inl (by rfl)) ?_
   · refine j_ifExp ?_ ?_ ?_
     · refine jt ?_
       · refine j_callB call_isi rs_isi (by rfl) m_isinstance (by rfl) ?_
         · refine ja_cons ?_ ?_
           · exact jv 0
           · refine ja_cons ?_ ?_
             · exact j_ty (by rfl) m_tuple (by rfl)
             · exact ja_nil
     · refine j_callB call_lenZ rs_len (by rfl) m_len (by rfl) ?_
       · refine ja_cons ?_ ?_
         · exact jv 0
         · exact ja_nil
     · exact j_int
 · refine jss_cons ?_ ?_
   · refine js_if ?_ ?_ ?_
     · refine jt_bool ?_
       · refine jw_or ?_ ?_
         · refine jt_not ?_
           · refine jt_chain op_leZ op_leZ (rs_cmp _ _) (rs_cmp _ _) ?_ ?_ ?_
             · exact j_int
             · exact jv 2
             · exact j_const (by rfl) k_MOST_STATES
         · refine jw_or1 ?_
           · refine jt_not ?_
             · refine jt ?_
               · refine j_call' tk c_is_distribution hr (by decide) (by rfl) ?_
                 · refine ja_cons ?_ ?_
                   · exact jv 2
                   · refine ja_cons ?_ ?_
                     · exact jv 0
                     · exact ja_nil
     · refine jss_one ?_
       · refine js_raise' (by rfl) tk e_InvalidDistribution hr (by decide) (by rfl) ?_
         · refine ja_cons ?_ ?_
           · exact jv 0
           · exact ja_nil
     · exact jss_nil
   · refine jss_one ?_
     · refine js_if ?_ ?_ ?_
       · refine jt_not ?_
         · refine jt ?_
           · refine j_call' tk c_is_distribution hr (by decide) (by rfl) ?_
             · refine ja_cons ?_ ?_
               · exact jv 2
               · refine ja_cons ?_ ?_
                 · exact jv 1
                 · exact ja_nil
       · refine jss_one ?_
         · refine js_raise' (by rfl) tk e_InvalidDistribution hr (by decide) (by rfl) ?_
           · refine ja_cons ?_ ?_
             · exact jv 1
             · exact ja_nil
       · exact jss_nil
theorem wk_gap {asp_subtract : ASp} (c_subtract : Cal P w K mg base "subtract" s_subtract ["one", "other"] 2 asp_subtract) (m_abs : mg "abs" = none) : Walk P w K mg base ["one", "other", "numerator", "denominator"] "gap" s_gap 2 (t_gap asp_subtract) := by
 intro f cdv A outer s H E hr tk ps
 refine jss_cons ?_ ?_
 · refine js_asg ?_ ?_
   · refine j_call' tk c_subtract hr (by decide) (by rfl) ?_
     · refine ja_cons ?_ ?_
       · exact jv 0
       · refine ja_cons ?_ ?_
         · exact jv 1
         · exact ja_nil
   · refine jg_tup (by rfl) ?_
     · refine jgs_cons ?_ ?_
       · exact jg_name (i := 2) sc_gap.nd (by rfl) (.inl (by rfl))
       · refine jgs_cons ?_ ?_
         · exact jg_name (i := 3) sc_gap.nd (by rfl) (.inl (by rfl))
         · exact jgs_nil
 · refine jss_one ?_
   · refine js_ret ?_
     · refine j_tup ?_
       · refine ja_cons ?_ ?_
         · refine j_callB call_abs rs_abs (by rfl) m_abs (by rfl) ?_
           · refine ja_cons ?_ ?_
             · exact jv 2
             · exact ja_nil
         · refine ja_cons ?_ ?_
           · exact jv 3
           · exact ja_nil
theorem wk_variation_of {asp_multiply : ASp} {asp_total : ASp} {asp_gap : ASp} (c_multiply : Cal P w K mg base "multiply" s_multiply ["one", "other"] 2 asp_multiply) (c_total : Cal P w K mg base "total" s_total ["items"] 3 asp_total) (m_zip : mg "zip" = none) (c_gap : Cal P w K mg base "gap" s_gap ["one", "other"] 3 asp_gap) (k_HALF : ConstOk K mg "HALF" (.tup [.int 1, .int 2])) : Walk P w K mg base ["one", "other", "left", "right"] "variation_of" s_variation_of 3 (t_variation_of asp_multiply asp_total asp_gap) := by
 intro f cdv A outer s H E hr tk ps
 refine jss_one ?_
 · refine js_ret ?_
   · refine j_call' tk c_multiply hr (by decide) (by rfl) ?_
     · refine ja_cons ?_ ?_
       · exact j_const (by rfl) k_HALF
       · refine ja_cons ?_ ?_
         · refine j_call' tk c_total hr (by decide) (by rfl) ?_
           · refine ja_cons ?_ ?_
             · refine j_lc (own := [("left", 2), ("right", 3)]) false (by rfl) sc_variation_of.nd ?_ (blkOk_by (N := ["one", "other", "left", "right"]) (sc := defScope s_variation_of) (by first | decide +kernel | kernel_rfl)) (by decide) (fun _ _ _ _ _ => ?_) (fun _ _ _ _ _ => ?_) (fun _ _ _ _ _ => ?_)
               · refine ji_zip (by rfl) m_zip ?_
                 · refine ja_cons ?_ ?_
                   · exact jv 0
                   · refine ja_cons ?_ ?_
                     · exact jv 1
                     · exact ja_nil
               · refine pg_tup (by rfl) ?_
                 · refine pgs_cons ?_ ?_
                   · exact pg_name (i := 2) sc_variation_of.nd (by rfl) (Or.inl (by rfl))
                   · refine pgs_cons ?_ ?_
                     · exact pg_name (i := 3) sc_variation_of.nd (by rfl) (Or.inl (by rfl))
                     · exact pgs_nil
               · exact jts_nil
               · refine j_call' takes0 c_gap hr (by decide) (by rfl) ?_
                 · refine ja_cons ?_ ?_
                   · exact jv 2
                   · refine ja_cons ?_ ?_
                     · exact jv 3
                     · exact ja_nil
             · exact ja_nil
         · exact ja_nil
theorem wk_variation {asp_check_distributions : ASp} {asp_variation_of : ASp} (c_check_distributions : Cal P w K mg base "check_distributions" s_check_distributions ["one", "other"] 5 asp_check_distributions) (c_variation_of : Cal P w K mg base "variation_of" s_variation_of ["one", "other"] 4 asp_variation_of) : Walk P w K mg base ["one", "other"] "variation" s_variation 5 (t_variation asp_check_distributions asp_variation_of) := by
 intro f cdv A outer s H E hr tk ps
 refine jss_cons ?_ ?_
 · refine js_expr ?_
   · refine j_call' tk c_check_distributions hr (by decide) (by rfl) ?_
     · refine ja_cons ?_ ?_
       · exact jv 0
       · refine ja_cons ?_ ?_
         · exact jv 1
         · exact ja_nil
 · refine jss_one ?_
   · refine js_ret ?_
     · refine j_call' tk c_variation_of hr (by decide) (by rfl) ?_
       · refine ja_cons ?_ ?_
         · exact jv 0
         · refine ja_cons ?_ ?_
           · exact jv 1
           · exact ja_nil
theorem wk_best_event {asp_check_distributions : ASp} {asp_is_less : ASp} (c_check_distributions : Cal P w K mg base "check_distributions" s_check_distributions ["one", "other"] 5 asp_check_distributions) (m_enumerate : mg "enumerate" = none) (c_is_less : Cal P w K mg base "is_less" s_is_less ["one", "other"] 2 asp_is_less) (m_tuple : mg "tuple" = none) : Walk P w K mg base ["one", "other", "state", "left"] "best_event" s_best_event 5 (t_best_event asp_check_distributions asp_is_less) := by
 intro f cdv A outer s H E hr tk ps
 refine jss_cons ?_ ?_
 · refine js_expr ?_
   · refine j_call' tk c_check_distributions hr (by decide) (by rfl) ?_
     · refine ja_cons ?_ ?_
       · exact jv 0
       · refine ja_cons ?_ ?_
         · exact jv 1
         · exact ja_nil
 · refine jss_one ?_
   · refine js_ret ?_
     · refine j_callTy call_tupZ rs_tuple (by rfl) m_tuple (by rfl) ?_
       · refine ja_cons ?_ ?_
         · refine j_lc (own := [("state", 2), ("left", 3)]) false (by rfl) sc_best_event.nd ?_ (blkOk_by (N := ["one", "other", "state", "left"]) (sc := defScope s_best_event) (by first | decide +kernel | kernel_rfl)) (by decide) (fun _ _ _ _ _ => ?_) (fun _ _ _ _ _ => ?_) (fun _ _ _ _ _ => ?_)
           · refine ji_enumX (by rfl) m_enumerate ?_
             · refine ja_cons ?_ ?_
               · exact jv 0
               · exact ja_nil
           · refine pg_tup (by rfl) ?_
             · refine pgs_cons ?_ ?_
               · exact pg_name (i := 2) sc_best_event.nd (by rfl) (Or.inl (by rfl))
               · refine pgs_cons ?_ ?_
                 · exact pg_name (i := 3) sc_best_event.nd (by rfl) (Or.inl (by rfl))
                 · exact pgs_nil
           · refine jts_one ?_
             · refine jt ?_
               · refine j_call' takes0 c_is_less hr (by decide) (by rfl) ?_
                 · refine ja_cons ?_ ?_
                   · refine j_ix ix_seq rs_ix ?_ ?_ (fun _ _ => by rfl)
                     · exact jv 1
                     · exact jv 2
                   · refine ja_cons ?_ ?_
                     · exact jv 3
                     · exact ja_nil
           · exact jv 2
         · exact ja_nil
theorem wk_separation {asp_check_distributions : ASp} {asp_greatest : ASp} {asp_subtract : ASp} {asp_divide : ASp} (c_check_distributions : Cal P w K mg base "check_distributions" s_check_distributions ["one", "other"] 5 asp_check_distributions) (m_zip : mg "zip" = none) (k_ZERO : ConstOk K mg "ZERO" (.tup [.int 0, .int 1])) (c_greatest : Cal P w K mg base "greatest" s_greatest ["items"] 3 asp_greatest) (c_subtract : Cal P w K mg base "subtract" s_subtract ["one", "other"] 2 asp_subtract) (c_divide : Cal P w K mg base "divide" s_divide ["one", "other"] 3 asp_divide) (k_ONE : ConstOk K mg "ONE" (.tup [.int 1, .int 1])) : Walk P w K mg base ["one", "other", "pairs", "left", "right"] "separation" s_separation 5 (t_separation asp_check_distributions asp_greatest asp_subtract asp_divide) := by
 intro f cdv A outer s H E hr tk ps
 refine jss_cons ?_ ?_
 · refine js_expr ?_
   · refine j_call' tk c_check_distributions hr (by decide) (by rfl) ?_
     · refine ja_cons ?_ ?_
       · exact jv 0
       · refine ja_cons ?_ ?_
         · exact jv 1
         · exact ja_nil
 · refine jss_cons ?_ ?_
   · refine js_setLc (own := [("left", 3), ("right", 4)]) false (i := 2) (by rfl) sc_separation.nd (by rfl) (by rfl) (sw_true (by rfl) (by rfl) (by rfl) (by decide +kernel)) ?_ (blkOk_by (N := ["one", "other", "pairs", "left", "right"]) (sc := defScope s_separation) (by first | decide +kernel | kernel_rfl)) (by decide) (fun _ _ _ _ _ => ?_) (fun _ _ _ _ _ => ?_) (fun _ _ _ _ _ => ?_)
     · refine ji_zip (by rfl) m_zip ?_
       · refine ja_cons ?_ ?_
         · exact jv 0
         · refine ja_cons ?_ ?_
           · exact jv 1
           · exact ja_nil
     · refine pg_tup (by rfl) ?_
       · refine pgs_cons ?_ ?_
         · exact pg_name (i := 3) sc_separation.nd (by rfl) (Or.inl (by rfl))
         · refine pgs_cons ?_ ?_
           · exact pg_name (i := 4) sc_separation.nd (by rfl) (Or.inl (by rfl))
           · exact pgs_nil
     · refine jts_one ?_
       · refine jt_cmp (op_neD (u64 hr)) rs_ne ?_ ?_ (by rfl)
         · exact jv 4
         · exact j_const (by rfl) k_ZERO
     · refine j_tup ?_
       · refine ja_cons ?_ ?_
         · exact jv 3
         · refine ja_cons ?_ ?_
           · exact jv 4
           · exact ja_nil
   · refine jss_one ?_
     · refine js_ret ?_
       · refine j_call' tk c_greatest hr (by decide) (by rfl) ?_
         · refine ja_cons ?_ ?_
           · refine j_lc (own := [("left", 3), ("right", 4)]) false (by rfl) sc_separation.nd ?_ (blkOk_by (N := ["one", "other", "pairs", "left", "right"]) (sc := defScope s_separation) (by first | decide +kernel | kernel_rfl)) (by decide) (fun _ _ _ _ _ => ?_) (fun _ _ _ _ _ => ?_) (fun _ _ _ _ _ => ?_)
             · refine ji_seq ?_
               · exact jv 2
             · refine pg_tup (by rfl) ?_
               · refine pgs_cons ?_ ?_
                 · exact pg_name (i := 3) sc_separation.nd (by rfl) (Or.inl (by rfl))
                 · refine pgs_cons ?_ ?_
                   · exact pg_name (i := 4) sc_separation.nd (by rfl) (Or.inl (by rfl))
                   · exact pgs_nil
             · exact jts_nil
             · refine j_call' takes0 c_subtract hr (by decide) (by rfl) ?_
               · refine ja_cons ?_ ?_
                 · exact j_const (by rfl) k_ONE
                 · refine ja_cons ?_ ?_
                   · refine j_call' takes0 c_divide hr (by decide) (by rfl) ?_
                     · refine ja_cons ?_ ?_
                       · exact jv 3
                       · refine ja_cons ?_ ?_
                         · exact jv 4
                         · exact ja_nil
                   · exact ja_nil
           · exact ja_nil
theorem wk_law_cell (m_len : mg "len" = none) (m_sum : mg "sum" = none) (m_int : mg "int" = none) : Walk P w K mg base ["script", "k"] "_law_cell" s_law_cell 0 (t_law_cell) := by
 intro f cdv A outer s H E hr tk ps
 refine jss_one ?_
 · refine js_ret ?_
   · refine j_ifExp ?_ ?_ ?_
     · refine jt_cmp op_ltZ (rs_cmp _ _) ?_ ?_ (by rfl)
       · exact jv 1
       · refine j_callB call_lenZ rs_len (by rfl) m_len (by rfl) ?_
         · refine ja_cons ?_ ?_
           · exact jv 0
           · exact ja_nil
     · refine j_ix ix_seq rs_ix ?_ ?_ (fun _ _ => by rfl)
       · exact jv 0
       · exact jv 1
     · refine j_op op_addZ (rs_add false) ?_ ?_
       · refine j_op op_mulZ (rs_mul false) ?_ ?_
         · exact j_int
         · exact jv 1
       · refine j_op op_modN rs_mod ?_ ?_
         · refine j_callTy call_intZ rs_int (by rfl) m_int (by rfl) ?_
           · refine ja_cons ?_ ?_
             · refine j_callB (cr_sum (by rfl)) rs_sum (by rfl) m_sum (by rfl) ?_
               · refine ja_cons ?_ ?_
                 · refine j_slice false ?_ ?_ ?_
                   · exact jv 0
                   · exact jo_none
                   · refine jo_some ?_
                     · exact j_int
                 · exact ja_nil
             · exact ja_nil
         · exact j_int
theorem wk_law_box (m_abs : mg "abs" = none) (m_int : mg "int" = none) : Walk P w K mg base ["great"] "_law_box" s_law_box 0 (t_law_box) := by
 intro f cdv A outer s H E hr tk ps
 refine jss_one ?_
 · refine js_ret ?_
   · refine j_lst true ?_
     · refine ja_cons ?_ ?_
       · refine j_callB call_abs rs_abs (by rfl) m_abs (by rfl) ?_
         · refine ja_cons ?_ ?_
           · exact jv 0
           · exact ja_nil
       · refine ja_cons ?_ ?_
         · refine j_cmp op_geZ (rs_cmp _ _) ?_ ?_ (by rfl)
           · refine j_callB call_abs rs_abs (by rfl) m_abs (by rfl) ?_
             · refine ja_cons ?_ ?_
               · exact jv 0
               · exact ja_nil
           · refine j_op op_powA rs_pow ?_ ?_
             · exact j_int
             · exact j_int
         · refine ja_cons ?_ ?_
           · refine j_op op_modN rs_mod ?_ ?_
             · refine j_callTy call_intZ rs_int (by rfl) m_int (by rfl) ?_
               · refine ja_cons ?_ ?_
                 · refine j_callB call_abs rs_abs (by rfl) m_abs (by rfl) ?_
                   · refine ja_cons ?_ ?_
                     · exact jv 0
                     · exact ja_nil
                 · exact ja_nil
             · exact j_int
           · refine ja_cons ?_ ?_
             · exact j_int
             · exact ja_nil
theorem wk_law_take (m_int : mg "int" = none) : Walk P w K mg base ["box", "many", "mixed", "digit"] "_law_take" s_law_take 0 (t_law_take) := by
 intro f cdv A outer s H E hr tk ps
 refine jss_cons ?_ ?_
 · refine js_if ?_ ?_ ?_
   · refine jt_bool ?_
     · refine jw_and ?_ ?_
       · refine jt ?_
         · refine j_ix ix_seq rs_ix ?_ ?_ (fun _ _ => by rfl)
           · exact jv 0
           · exact j_int
       · refine jw_and1 ?_
         · refine jt_cmp op_gtZ (rs_cmp _ _) ?_ ?_ (by rfl)
           · refine j_ix ix_seq rs_ix ?_ ?_ (fun _ _ => by rfl)
             · exact jv 0
             · exact j_int
           · exact j_int
   · refine jss_cons ?_ ?_
     · refine js_set (i := 3) sc_law_take.nd (by rfl) (.inl (by rfl)) ?_
       · refine j_op op_modN rs_mod ?_ ?_
         · refine j_callTy call_intZ rs_int (by rfl) m_int (by rfl) ?_
           · refine ja_cons ?_ ?_
             · refine j_ix ix_seq rs_ix ?_ ?_ (fun _ _ => by rfl)
               · exact jv 0
               · exact j_int
             · exact ja_nil
         · exact jv 1
     · refine jss_cons ?_ ?_
       · refine js_asg ?_ ?_
         · refine j_op op_fdivA rs_fdivA ?_ ?_
           · refine j_ix ix_seq rs_ix ?_ ?_ (fun _ _ => by rfl)
             · exact jv 0
             · exact j_int
           · exact jv 1
         · refine jg_sub ?_ ?_ set_list rs_set (fun _ => by rfl)
           · exact jv 0
           · exact j_int
       · refine jss_one ?_
         · refine js_ret ?_
           · exact jv 3
   · exact jss_nil
 · refine jss_cons ?_ ?_
   · refine js_asg ?_ ?_
     · refine j_op op_addZ (rs_add false) ?_ ?_
       · refine j_ix ix_seq rs_ix ?_ ?_ (fun _ _ => by rfl)
         · exact jv 0
         · exact j_int
       · exact j_int
     · refine jg_sub ?_ ?_ set_list rs_set (fun _ => by rfl)
       · exact jv 0
       · exact j_int
   · refine jss_cons ?_ ?_
     · refine js_set (i := 2) sc_law_take.nd (by rfl) (.inl (by rfl)) ?_
       · refine j_op op_modN rs_mod ?_ ?_
         · refine j_callTy call_intZ rs_int (by rfl) m_int (by rfl) ?_
           · refine ja_cons ?_ ?_
             · refine j_op op_powA rs_pow ?_ ?_
               · refine j_op op_addZ (rs_add false) ?_ ?_
                 · refine j_op op_addZ (rs_add false) ?_ ?_
                   · refine j_ix ix_seq rs_ix ?_ ?_ (fun _ _ => by rfl)
                     · exact jv 0
                     · exact j_int
                   · refine j_op op_mulZ (rs_mul false) ?_ ?_
                     · exact j_int
                     · refine j_ix ix_seq rs_ix ?_ ?_ (fun _ _ => by rfl)
                       · exact jv 0
                       · exact j_int
                 · exact j_int
               · exact j_int
             · exact ja_nil
         · exact j_int
     · refine jss_one ?_
       · refine js_ret ?_
         · refine j_op op_modN rs_mod ?_ ?_
           · refine j_callTy call_intZ rs_int (by rfl) m_int (by rfl) ?_
             · refine ja_cons ?_ ?_
               · refine j_op op_fdivA rs_fdivA ?_ ?_
                 · refine j_op op_modN rs_mod ?_ ?_
                   · refine j_callTy call_intZ rs_int (by rfl) m_int (by rfl) ?_
                     · refine ja_cons ?_ ?_
                       · refine j_op op_powA rs_pow ?_ ?_
                         · refine j_op op_addZ (rs_add false) ?_ ?_
                           · refine j_op op_mulZ (rs_mul false) ?_ ?_
                             · exact jv 2
                             · exact j_int
                           · refine j_op op_mulZ (rs_mul false) ?_ ?_
                             · exact j_int
                             · refine j_ix ix_seq rs_ix ?_ ?_ (fun _ _ => by rfl)
                               · exact jv 0
                               · exact j_int
                         · exact j_int
                       · exact ja_nil
                   · exact j_int
                 · exact j_int
               · exact ja_nil
           · exact jv 1
theorem wk_law_same {k : Nat} {asp_law_same : ASp} (m_bool : mg "bool" = none) (m_isinstance : mg "isinstance" = none) (m_int : mg "int" = none) (m_str : mg "str" = none) (m_range : mg "range" = none) (m_len : mg "len" = none) (m_tuple : mg "tuple" = none) (m_list : mg "list" = none) (c_law_same : Cal P w K mg base "_law_same" s_law_same ["told", "due"] k asp_law_same) : Walk P w K mg base ["told", "due", "k"] "_law_same" s_law_same k (t_law_same asp_law_same) := by
 intro f cdv A outer s H E hr tk ps
 refine jss_cons ?_ ?_
 · refine js_if ?_ ?_ ?_
   · refine jt_bool ?_
     · refine jw_or ?_ ?_
       · refine jt_cmp op_isZ (rs_is false) ?_ ?_ (by rfl)
         · exact jv 1
         · exact j_non
       · refine jw_or1 ?_
         · refine jt ?_
           · refine j_callB call_isi rs_isi (by rfl) m_isinstance (by rfl) ?_
             · refine ja_cons ?_ ?_
               · exact jv 1
               · refine ja_cons ?_ ?_
                 · exact j_ty (by rfl) m_bool (by rfl)
                 · exact ja_nil
   · refine jss_one ?_
     · refine js_ret ?_
       · refine j_ifExp ?_ ?_ ?_
         · refine jt_cmp op_isZ (rs_is false) ?_ ?_ (by rfl)
           · exact jv 1
           · exact j_non
         · refine j_cmp op_isZ (rs_is false) ?_ ?_ (by rfl)
           · exact jv 0
           · exact j_non
         · refine j_and ?_ ?_
           · refine j_callB call_isi rs_isi (by rfl) m_isinstance (by rfl) ?_
             · refine ja_cons ?_ ?_
               · exact jv 0
               · refine ja_cons ?_ ?_
                 · exact j_ty (by rfl) m_bool (by rfl)
                 · exact ja_nil
           · refine j_one ?_
             · refine j_cmp (op_eqD (u64 hr)) rs_eq ?_ ?_ (by rfl)
               · refine j_cmp op_isZ (rs_is false) ?_ ?_ (by rfl)
                 · exact jv 0
                 · exact j_bl
               · refine j_cmp op_isZ (rs_is false) ?_ ?_ (by rfl)
                 · exact jv 1
                 · exact j_bl
   · exact jss_nil
 · refine jss_cons ?_ ?_
   · refine js_if ?_ ?_ ?_
     · refine jt ?_
       · refine j_callB call_isi rs_isi (by rfl) m_isinstance (by rfl) ?_
         · refine ja_cons ?_ ?_
           · exact jv 1
           · refine ja_cons ?_ ?_
             · exact j_ty (by rfl) m_int (by rfl)
             · exact ja_nil
     · refine jss_one ?_
       · refine js_ret ?_
         · refine j_and ?_ ?_
           · refine j_callB call_isi rs_isi (by rfl) m_isinstance (by rfl) ?_
             · refine ja_cons ?_ ?_
               · exact jv 0
               · refine ja_cons ?_ ?_
                 · exact j_ty (by rfl) m_int (by rfl)
                 · exact ja_nil
           · refine j_and ?_ ?_
             · refine j_not ?_
               · refine j_callB call_isi rs_isi (by rfl) m_isinstance (by rfl) ?_
                 · refine ja_cons ?_ ?_
                   · exact jv 0
                   · refine ja_cons ?_ ?_
                     · exact j_ty (by rfl) m_bool (by rfl)
                     · exact ja_nil
             · refine j_one ?_
               · refine j_cmp (op_eqD (u64 hr)) rs_eq ?_ ?_ (by rfl)
                 · refine j_op op_sub rs_sub ?_ ?_
                   · refine j_callTy call_intZ rs_int (by rfl) m_int (by rfl) ?_
                     · refine ja_cons ?_ ?_
                       · exact jv 0
                       · exact ja_nil
                   · exact jv 1
                 · exact j_int
     · exact jss_nil
   · refine jss_cons ?_ ?_
     · refine js_if ?_ ?_ ?_
       · refine jt ?_
         · refine j_callB call_isi rs_isi (by rfl) m_isinstance (by rfl) ?_
           · refine ja_cons ?_ ?_
             · exact jv 1
             · refine ja_cons ?_ ?_
               · exact j_ty (by rfl) m_str (by rfl)
               · exact ja_nil
       · refine jss_one ?_
         · refine js_ret ?_
           · refine j_and ?_ ?_
             · refine j_callB call_isi rs_isi (by rfl) m_isinstance (by rfl) ?_
               · refine ja_cons ?_ ?_
                 · exact jv 0
                 · refine ja_cons ?_ ?_
                   · exact j_ty (by rfl) m_str (by rfl)
                   · exact ja_nil
             · refine j_and ?_ ?_
               · refine j_cmp (op_eqD (u64 hr)) rs_eq ?_ ?_ (by rfl)
                 · refine j_callB call_lenZ rs_len (by rfl) m_len (by rfl) ?_
                   · refine ja_cons ?_ ?_
                     · exact jv 0
                     · exact ja_nil
                 · refine j_callB call_lenZ rs_len (by rfl) m_len (by rfl) ?_
                   · refine ja_cons ?_ ?_
                     · exact jv 1
                     · exact ja_nil
               · refine j_one ?_
                 · refine j_cmp (op_eqD (u64 hr)) rs_eq ?_ ?_ (by rfl)
                   · refine j_lc (own := [("k", 2)]) false (by rfl) sc_law_same.nd ?_ (blkOk_by (N := ["told", "due", "k"]) (sc := defScope s_law_same) (by first | decide +kernel | kernel_rfl)) (by decide) (fun _ _ _ _ _ => ?_) (fun _ _ _ _ _ => ?_) (fun _ _ _ _ _ => ?_)
                     · refine ji_range1 (by rfl) m_range ?_
                       · refine ja_cons ?_ ?_
                         · refine j_callB call_lenZ rs_len (by rfl) m_len (by rfl) ?_
                           · refine ja_cons ?_ ?_
                             · exact jv 1
                             · exact ja_nil
                         · exact ja_nil
                     · exact pg_name (i := 2) sc_law_same.nd (by rfl) (Or.inl (by rfl))
                     · refine jts_one ?_
                       · refine jt_cmp (op_neD (u64 hr)) rs_ne ?_ ?_ (by rfl)
                         · refine j_slice false ?_ ?_ ?_
                           · exact jv 0
                           · refine jo_some ?_
                             · exact jv 2
                           · refine jo_some ?_
                             · refine j_op op_addZ (rs_add false) ?_ ?_
                               · exact jv 2
                               · exact j_int
                         · refine j_ix ix_seq rs_ix ?_ ?_ (fun _ _ => by rfl)
                           · exact jv 1
                           · exact jv 2
                     · exact jv 2
                   · refine j_lst false ?_
                     · exact ja_nil
       · exact jss_nil
     · refine jss_cons ?_ ?_
       · refine js_if ?_ ?_ ?_
         · refine jt_bool ?_
           · refine jw_or ?_ ?_
             · refine jt_cmp (op_neD (u64 hr)) rs_ne ?_ ?_ (by rfl)
               · refine j_callB call_isi rs_isi (by rfl) m_isinstance (by rfl) ?_
                 · refine ja_cons ?_ ?_
                   · exact jv 0
                   · refine ja_cons ?_ ?_
                     · exact j_ty (by rfl) m_list (by rfl)
                     · exact ja_nil
               · refine j_callB call_isi rs_isi (by rfl) m_isinstance (by rfl) ?_
                 · refine ja_cons ?_ ?_
                   · exact jv 1
                   · refine ja_cons ?_ ?_
                     · exact j_ty (by rfl) m_list (by rfl)
                     · exact ja_nil
             · refine jw_or1 ?_
               · refine jt_cmp (op_neD (u64 hr)) rs_ne ?_ ?_ (by rfl)
                 · refine j_callB call_isi rs_isi (by rfl) m_isinstance (by rfl) ?_
                   · refine ja_cons ?_ ?_
                     · exact jv 0
                     · refine ja_cons ?_ ?_
                       · exact j_ty (by rfl) m_tuple (by rfl)
                       · exact ja_nil
                 · refine j_callB call_isi rs_isi (by rfl) m_isinstance (by rfl) ?_
                   · refine ja_cons ?_ ?_
                     · exact jv 1
                     · refine ja_cons ?_ ?_
                       · exact j_ty (by rfl) m_tuple (by rfl)
                       · exact ja_nil
         · refine jss_one ?_
           · refine js_ret ?_
             · exact j_bl
         · exact jss_nil
       · refine jss_one ?_
         · refine js_ret ?_
           · refine j_and ?_ ?_
             · refine j_cmp (op_eqD (u64 hr)) rs_eq ?_ ?_ (by rfl)
               · refine j_callB call_lenZ rs_len (by rfl) m_len (by rfl) ?_
                 · refine ja_cons ?_ ?_
                   · exact jv 0
                   · exact ja_nil
               · refine j_callB call_lenZ rs_len (by rfl) m_len (by rfl) ?_
                 · refine ja_cons ?_ ?_
                   · exact jv 1
                   · exact ja_nil
             · refine j_one ?_
               · refine j_cmp (op_eqD (u64 hr)) rs_eq ?_ ?_ (by rfl)
                 · refine j_lc (own := [("k", 2)]) false (by rfl) sc_law_same.nd ?_ (blkOk_by (N := ["told", "due", "k"]) (sc := defScope s_law_same) (by first | decide +kernel | kernel_rfl)) (by decide) (fun _ _ _ _ _ => ?_) (fun _ _ _ _ _ => ?_) (fun _ _ _ _ _ => ?_)
                   · refine ji_range1 (by rfl) m_range ?_
                     · refine ja_cons ?_ ?_
                       · refine j_callB call_lenZ rs_len (by rfl) m_len (by rfl) ?_
                         · refine ja_cons ?_ ?_
                           · exact jv 1
                           · exact ja_nil
                       · exact ja_nil
                   · exact pg_name (i := 2) sc_law_same.nd (by rfl) (Or.inl (by rfl))
                   · refine jts_one ?_
                     · refine jt_not ?_
                       · refine jt ?_
                         · refine j_call' takes0 c_law_same hr (Nat.le_refl _) (by rfl) ?_
                           · refine ja_cons ?_ ?_
                             · refine j_ix ix_seq rs_ix ?_ ?_ (fun _ _ => by rfl)
                               · exact jv 0
                               · exact jv 2
                             · refine ja_cons ?_ ?_
                               · refine j_ix ix_seq rs_ix ?_ ?_ (fun _ _ => by rfl)
                                 · exact jv 1
                                 · exact jv 2
                               · exact ja_nil
                   · exact jv 2
                 · refine j_lst false ?_
                   · exact ja_nil
theorem wk_law_gcd (m_abs : mg "abs" = none) : Walk P w K mg base ["a", "b"] "_law_gcd" s_law_gcd 0 (t_law_gcd) := by
 intro f cdv A outer s H E hr tk ps
 refine jss_cons ?_ ?_
 · refine js_par (i := 0) (j := 1) (by rfl) sc_law_gcd.nd (by rfl) (by rfl) (by decide) (by rfl) (by rfl) ?_
   · refine ja_cons ?_ ?_
     · refine j_callB call_abs rs_abs (by rfl) m_abs (by rfl) ?_
       · refine ja_cons ?_ ?_
         · exact jv 0
         · exact ja_nil
     · refine ja_cons ?_ ?_
       · refine j_callB call_abs rs_abs (by rfl) m_abs (by rfl) ?_
         · refine ja_cons ?_ ?_
           · exact jv 1
           · exact ja_nil
       · exact ja_nil
 · refine jss_cons ?_ ?_
   · refine js_while ps ?_ ?_
     · refine jt_cmp (op_neD (u64 hr)) rs_ne ?_ ?_ (by rfl)
       · exact jv 1
       · exact j_int
     · refine jss_one ?_
       · refine js_par (i := 0) (j := 1) (by rfl) sc_law_gcd.nd (by rfl) (by rfl) (by decide) (by rfl) (by rfl) ?_
         · refine ja_cons ?_ ?_
           · exact jv 1
           · refine ja_cons ?_ ?_
             · refine j_op op_modN rs_mod ?_ ?_
               · exact jv 0
               · exact jv 1
             · exact ja_nil
   · refine jss_one ?_
     · refine js_ret ?_
       · exact jv 0
theorem wk_law_low {asp_law_gcd : ASp} (c_law_gcd : Cal P w K mg base "_law_gcd" s_law_gcd ["a", "b"] 1 asp_law_gcd) : Walk P w K mg base ["top", "bottom", "by"] "_law_low" s_law_low 1 (t_law_low asp_law_gcd) := by
 intro f cdv A outer s H E hr tk ps
 refine jss_cons ?_ ?_
 · refine js_if ?_ ?_ ?_
   · refine jt_cmp op_ltZ (rs_cmp _ _) ?_ ?_ (by rfl)
     · exact jv 1
     · exact j_int
   · refine jss_one ?_
     · refine js_par (i := 0) (j := 1) (by rfl) sc_law_low.nd (by rfl) (by rfl) (by decide) (by rfl) (by rfl) ?_
       · refine ja_cons ?_ ?_
         · refine j_un un_neg rs_neg ?_
           · exact jv 0
         · refine ja_cons ?_ ?_
           · refine j_un un_neg rs_neg ?_
             · exact jv 1
           · exact ja_nil
   · exact jss_nil
 · refine jss_cons ?_ ?_
   · refine js_set (i := 2) sc_law_low.nd (by rfl) (.inl (by rfl)) ?_
     · refine j_call' tk c_law_gcd hr (by decide) (by rfl) ?_
       · refine ja_cons ?_ ?_
         · exact jv 0
         · refine ja_cons ?_ ?_
           · exact jv 1
           · exact ja_nil
   · refine jss_one ?_
     · refine js_ret ?_
       · refine j_tup ?_
         · refine ja_cons ?_ ?_
           · refine j_op op_fdivA rs_fdivA ?_ ?_
             · exact jv 0
             · exact jv 2
           · refine ja_cons ?_ ?_
             · refine j_op op_fdivA rs_fdivA ?_ ?_
               · exact jv 1
               · exact jv 2
             · exact ja_nil
theorem wk_law_add {asp_law_low : ASp} (c_law_low : Cal P w K mg base "_law_low" s_law_low ["top", "bottom"] 2 asp_law_low) : Walk P w K mg base ["one", "other"] "_law_add" s_law_add 2 (t_law_add asp_law_low) := by
 intro f cdv A outer s H E hr tk ps
 refine jss_one ?_
 · refine js_ret ?_
   · refine j_call' tk c_law_low hr (by decide) (by rfl) ?_
     · refine ja_cons ?_ ?_
       · refine j_op op_addZ (rs_add false) ?_ ?_
         · refine j_op op_mulZ (rs_mul false) ?_ ?_
           · refine j_ix ix_seq rs_ix ?_ ?_ (fun _ _ => by rfl)
             · exact jv 0
             · exact j_int
           · refine j_ix ix_seq rs_ix ?_ ?_ (fun _ _ => by rfl)
             · exact jv 1
             · exact j_int
         · refine j_op op_mulZ (rs_mul false) ?_ ?_
           · refine j_ix ix_seq rs_ix ?_ ?_ (fun _ _ => by rfl)
             · exact jv 1
             · exact j_int
           · refine j_ix ix_seq rs_ix ?_ ?_ (fun _ _ => by rfl)
             · exact jv 0
             · exact j_int
       · refine ja_cons ?_ ?_
         · refine j_op op_mulZ (rs_mul false) ?_ ?_
           · refine j_ix ix_seq rs_ix ?_ ?_ (fun _ _ => by rfl)
             · exact jv 0
             · exact j_int
           · refine j_ix ix_seq rs_ix ?_ ?_ (fun _ _ => by rfl)
             · exact jv 1
             · exact j_int
         · exact ja_nil
theorem wk_law_less {asp_law_low : ASp} (c_law_low : Cal P w K mg base "_law_low" s_law_low ["top", "bottom"] 2 asp_law_low) : Walk P w K mg base ["one", "other"] "_law_less" s_law_less 2 (t_law_less asp_law_low) := by
 intro f cdv A outer s H E hr tk ps
 refine jss_one ?_
 · refine js_ret ?_
   · refine j_call' tk c_law_low hr (by decide) (by rfl) ?_
     · refine ja_cons ?_ ?_
       · refine j_op op_sub rs_sub ?_ ?_
         · refine j_op op_mulZ (rs_mul false) ?_ ?_
           · refine j_ix ix_seq rs_ix ?_ ?_ (fun _ _ => by rfl)
             · exact jv 0
             · exact j_int
           · refine j_ix ix_seq rs_ix ?_ ?_ (fun _ _ => by rfl)
             · exact jv 1
             · exact j_int
         · refine j_op op_mulZ (rs_mul false) ?_ ?_
           · refine j_ix ix_seq rs_ix ?_ ?_ (fun _ _ => by rfl)
             · exact jv 1
             · exact j_int
           · refine j_ix ix_seq rs_ix ?_ ?_ (fun _ _ => by rfl)
             · exact jv 0
             · exact j_int
       · refine ja_cons ?_ ?_
         · refine j_op op_mulZ (rs_mul false) ?_ ?_
           · refine j_ix ix_seq rs_ix ?_ ?_ (fun _ _ => by rfl)
             · exact jv 0
             · exact j_int
           · refine j_ix ix_seq rs_ix ?_ ?_ (fun _ _ => by rfl)
             · exact jv 1
             · exact j_int
         · exact ja_nil
theorem wk_law_mul {asp_law_low : ASp} (c_law_low : Cal P w K mg base "_law_low" s_law_low ["top", "bottom"] 2 asp_law_low) : Walk P w K mg base ["one", "other"] "_law_mul" s_law_mul 2 (t_law_mul asp_law_low) := by
 intro f cdv A outer s H E hr tk ps
 refine jss_one ?_
 · refine js_ret ?_
   · refine j_call' tk c_law_low hr (by decide) (by rfl) ?_
     · refine ja_cons ?_ ?_
       · refine j_op op_mulZ (rs_mul false) ?_ ?_
         · refine j_ix ix_seq rs_ix ?_ ?_ (fun _ _ => by rfl)
           · exact jv 0
           · exact j_int
         · refine j_ix ix_seq rs_ix ?_ ?_ (fun _ _ => by rfl)
           · exact jv 1
           · exact j_int
       · refine ja_cons ?_ ?_
         · refine j_op op_mulZ (rs_mul false) ?_ ?_
           · refine j_ix ix_seq rs_ix ?_ ?_ (fun _ _ => by rfl)
             · exact jv 0
             · exact j_int
           · refine j_ix ix_seq rs_ix ?_ ?_ (fun _ _ => by rfl)
             · exact jv 1
             · exact j_int
         · exact ja_nil
theorem wk_law_div {asp_law_low : ASp} (c_law_low : Cal P w K mg base "_law_low" s_law_low ["top", "bottom"] 2 asp_law_low) : Walk P w K mg base ["one", "other"] "_law_div" s_law_div 2 (t_law_div asp_law_low) := by
 intro f cdv A outer s H E hr tk ps
 refine jss_one ?_
 · refine js_ret ?_
   · refine j_call' tk c_law_low hr (by decide) (by rfl) ?_
     · refine ja_cons ?_ ?_
       · refine j_op op_mulZ (rs_mul false) ?_ ?_
         · refine j_ix ix_seq rs_ix ?_ ?_ (fun _ _ => by rfl)
           · exact jv 0
           · exact j_int
         · refine j_ix ix_seq rs_ix ?_ ?_ (fun _ _ => by rfl)
           · exact jv 1
           · exact j_int
       · refine ja_cons ?_ ?_
         · refine j_op op_mulZ (rs_mul false) ?_ ?_
           · refine j_ix ix_seq rs_ix ?_ ?_ (fun _ _ => by rfl)
             · exact jv 0
             · exact j_int
           · refine j_ix ix_seq rs_ix ?_ ?_ (fun _ _ => by rfl)
             · exact jv 1
             · exact j_int
         · exact ja_nil
theorem wk_law_sum {asp_law_add : ASp} (c_law_add : Cal P w K mg base "_law_add" s_law_add ["one", "other"] 3 asp_law_add) : Walk P w K mg base ["items", "found", "item"] "_law_sum" s_law_sum 3 (t_law_sum asp_law_add) := by
 intro f cdv A outer s H E hr tk ps
 refine jss_cons ?_ ?_
 · refine js_set (i := 1) sc_law_sum.nd (by rfl) (.inl (by rfl)) ?_
   · refine j_tup ?_
     · refine ja_cons ?_ ?_
       · exact j_int
       · refine ja_cons ?_ ?_
         · exact j_int
         · exact ja_nil
 · refine jss_cons ?_ ?_
   · refine js_for ps (by rfl) ?_ ?_ ?_
     · refine ji_seq ?_
       · exact jv 0
     · exact jg_name (i := 2) sc_law_sum.nd (by rfl) (.inl (by rfl))
     · refine jss_one ?_
       · refine js_set (i := 1) sc_law_sum.nd (by rfl) (.inl (by rfl)) ?_
         · refine j_call' tk c_law_add hr (by decide) (by rfl) ?_
           · refine ja_cons ?_ ?_
             · exact jv 1
             · refine ja_cons ?_ ?_
               · exact jv 2
               · exact ja_nil
   · refine jss_one ?_
     · refine js_ret ?_
       · exact jv 1
theorem wk_law_below : Walk P w K mg base ["one", "other"] "_law_below" s_law_below 0 (t_law_below) := by
 intro f cdv A outer s H E hr tk ps
 refine jss_one ?_
 · refine js_ret ?_
   · refine j_cmp op_ltZ (rs_cmp _ _) ?_ ?_ (by rfl)
     · refine j_op op_mulZ (rs_mul false) ?_ ?_
       · refine j_ix ix_seq rs_ix ?_ ?_ (fun _ _ => by rfl)
         · exact jv 0
         · exact j_int
       · refine j_ix ix_seq rs_ix ?_ ?_ (fun _ _ => by rfl)
         · exact jv 1
         · exact j_int
     · refine j_op op_mulZ (rs_mul false) ?_ ?_
       · refine j_ix ix_seq rs_ix ?_ ?_ (fun _ _ => by rfl)
         · exact jv 1
         · exact j_int
       · refine j_ix ix_seq rs_ix ?_ ?_ (fun _ _ => by rfl)
         · exact jv 0
         · exact j_int
theorem wk_law_shares {asp_law_low : ASp} (m_sum : mg "sum" = none) (c_law_low : Cal P w K mg base "_law_low" s_law_low ["top", "bottom"] 2 asp_law_low) (m_tuple : mg "tuple" = none) : Walk P w K mg base ["weights", "total_v", "w"] "_law_shares" s_law_shares 2 (t_law_shares asp_law_low) := by
 intro f cdv A outer s H E hr tk ps
 refine jss_cons ?_ ?_
 · refine js_set (i := 1) sc_law_shares.nd (by rfl) (.inr (by rfl)) ?_
   · refine j_callB (cr_sum (by rfl)) rs_sum (by rfl) m_sum (by rfl) ?_
     · refine ja_cons ?_ ?_
       · exact jv 0
       · exact ja_nil
 · refine jss_one ?_
   · refine js_ret ?_
     · refine j_callTy call_tupZ rs_tuple (by rfl) m_tuple (by rfl) ?_
       · refine ja_cons ?_ ?_
         · refine j_lc (own := [("w", 2)]) false (by rfl) sc_law_shares.nd ?_ (blkOk_by (N := ["weights", "total_v", "w"]) (sc := defScope s_law_shares) (by first | decide +kernel | kernel_rfl)) (by decide) (fun _ _ _ _ _ => ?_) (fun _ _ _ _ _ => ?_) (fun _ _ _ _ _ => ?_)
           · refine ji_seq ?_
             · exact jv 0
           · exact pg_name (i := 2) sc_law_shares.nd (by rfl) (Or.inl (by rfl))
           · exact jts_nil
           · refine j_call' takes0 c_law_low hr (by decide) (by rfl) ?_
             · refine ja_cons ?_ ?_
               · exact jv 2
               · refine ja_cons ?_ ?_
                 · exact jv 1
                 · exact ja_nil
         · exact ja_nil
theorem wk_law_weights {asp_law_take : ASp} (m_range : mg "range" = none) (c_law_take : Cal P w K mg base "_law_take" s_law_take ["box", "many"] 1 asp_law_take) (m_sum : mg "sum" = none) : Walk P w K mg base ["box", "many", "odds", "found", "k"] "_law_weights" s_law_weights 1 (t_law_weights asp_law_take) := by
 intro f cdv A outer s H E hr tk ps
 refine jss_cons ?_ ?_
 · refine js_setLc (own := [("k", 4)]) true (i := 3) (by rfl) sc_law_weights.nd (by rfl) (by rfl) (sw_true (by rfl) (by rfl) (by rfl) (by decide +kernel)) ?_ (blkOk_by (N := ["box", "many", "odds", "found", "k"]) (sc := defScope s_law_weights) (by first | decide +kernel | kernel_rfl)) (by decide) (fun _ _ _ _ _ => ?_) (fun _ _ _ _ _ => ?_) (fun _ _ _ _ _ => ?_)
   · refine ji_range1 (by rfl) m_range ?_
     · refine ja_cons ?_ ?_
       · exact jv 1
       · exact ja_nil
   · exact pg_name (i := 4) sc_law_weights.nd (by rfl) (Or.inl (by rfl))
   · exact jts_nil
   · refine j_ifExp ?_ ?_ ?_
     · refine jt_cmp (op_eqD (u64 hr)) rs_eq ?_ ?_ (by rfl)
       · refine j_call' takes0 c_law_take hr (by decide) (by rfl) ?_
         · refine ja_cons ?_ ?_
           · exact jv 0
           · refine ja_cons ?_ ?_
             · exact jv 2
             · exact ja_nil
       · exact j_int
     · refine j_op op_addZ (rs_add false) ?_ ?_
       · exact j_int
       · refine j_call' takes0 c_law_take hr (by decide) (by rfl) ?_
         · refine ja_cons ?_ ?_
           · exact jv 0
           · refine ja_cons ?_ ?_
             · exact j_int
             · exact ja_nil
     · exact j_int
 · refine jss_cons ?_ ?_
   · refine js_if ?_ ?_ ?_
     · refine jt_cmp (op_eqD (u64 hr)) rs_eq ?_ ?_ (by rfl)
       · refine j_callB (cr_sum (by rfl)) rs_sum (by rfl) m_sum (by rfl) ?_
         · refine ja_cons ?_ ?_
           · exact jv 3
           · exact ja_nil
       · exact j_int
     · refine jss_one ?_
       · refine js_asg ?_ ?_
         · exact j_int
         · refine jg_sub ?_ ?_ set_list rs_set (fun _ => by rfl)
           · exact jv 3
           · refine j_call' tk c_law_take hr (by decide) (by rfl) ?_
             · refine ja_cons ?_ ?_
               · exact jv 0
               · refine ja_cons ?_ ?_
                 · exact jv 1
                 · exact ja_nil
     · exact jss_nil
   · refine jss_one ?_
     · refine js_ret ?_
       · exact jv 3
theorem wk_law_vary {asp_law_less : ASp} {asp_law_add : ASp} {asp_law_mul : ASp} (m_zip : mg "zip" = none) (c_law_less : Cal P w K mg base "_law_less" s_law_less ["one", "other"] 3 asp_law_less) (c_law_add : Cal P w K mg base "_law_add" s_law_add ["one", "other"] 3 asp_law_add) (m_abs : mg "abs" = none) (c_law_mul : Cal P w K mg base "_law_mul" s_law_mul ["one", "other"] 3 asp_law_mul) : Walk P w K mg base ["one", "other", "found", "a", "b", "gap_v"] "_law_vary" s_law_vary 3 (t_law_vary asp_law_less asp_law_add asp_law_mul) := by
 intro f cdv A outer s H E hr tk ps
 refine jss_cons ?_ ?_
 · refine js_set (i := 2) sc_law_vary.nd (by rfl) (.inl (by rfl)) ?_
   · refine j_tup ?_
     · refine ja_cons ?_ ?_
       · exact j_int
       · refine ja_cons ?_ ?_
         · exact j_int
         · exact ja_nil
 · refine jss_cons ?_ ?_
   · refine js_for ps (by rfl) ?_ ?_ ?_
     · refine ji_zip (by rfl) m_zip ?_
       · refine ja_cons ?_ ?_
         · exact jv 0
         · refine ja_cons ?_ ?_
           · exact jv 1
           · exact ja_nil
     · refine jg_tup (by rfl) ?_
       · refine jgs_cons ?_ ?_
         · exact jg_name (i := 3) sc_law_vary.nd (by rfl) (.inl (by rfl))
         · refine jgs_cons ?_ ?_
           · exact jg_name (i := 4) sc_law_vary.nd (by rfl) (.inl (by rfl))
           · exact jgs_nil
     · refine jss_cons ?_ ?_
       · refine js_set (i := 5) sc_law_vary.nd (by rfl) (.inl (by rfl)) ?_
         · refine j_call' tk c_law_less hr (by decide) (by rfl) ?_
           · refine ja_cons ?_ ?_
             · exact jv 3
             · refine ja_cons ?_ ?_
               · exact jv 4
               · exact ja_nil
       · refine jss_one ?_
         · refine js_set (i := 2) sc_law_vary.nd (by rfl) (.inl (by rfl)) ?_
           · refine j_call' tk c_law_add hr (by decide) (by rfl) ?_
             · refine ja_cons ?_ ?_
               · exact jv 2
               · refine ja_cons ?_ ?_
                 · refine j_tup ?_
                   · refine ja_cons ?_ ?_
                     · refine j_callB call_abs rs_abs (by rfl) m_abs (by rfl) ?_
                       · refine ja_cons ?_ ?_
                         · refine j_ix ix_seq rs_ix ?_ ?_ (fun _ _ => by rfl)
                           · exact jv 5
                           · exact j_int
                         · exact ja_nil
                     · refine ja_cons ?_ ?_
                       · refine j_ix ix_seq rs_ix ?_ ?_ (fun _ _ => by rfl)
                         · exact jv 5
                         · exact j_int
                       · exact ja_nil
                 · exact ja_nil
   · refine jss_one ?_
     · refine js_ret ?_
       · refine j_call' tk c_law_mul hr (by decide) (by rfl) ?_
         · refine ja_cons ?_ ?_
           · exact jv 2
           · refine ja_cons ?_ ?_
             · refine j_tup ?_
               · refine ja_cons ?_ ?_
                 · exact j_int
                 · refine ja_cons ?_ ?_
                   · exact j_int
                   · exact ja_nil
             · exact ja_nil
theorem wk_law_pair {asp_law_shares : ASp} {asp_law_weights : ASp} {asp_law_take : ASp} (c_law_shares : Cal P w K mg base "_law_shares" s_law_shares ["weights"] 3 asp_law_shares) (c_law_weights : Cal P w K mg base "_law_weights" s_law_weights ["box", "many", "odds"] 2 asp_law_weights) (c_law_take : Cal P w K mg base "_law_take" s_law_take ["box", "many"] 1 asp_law_take) (m_range : mg "range" = none) (m_int : mg "int" = none) : Walk P w K mg base ["box", "size", "one", "way", "weights", "cut", "low", "high", "top", "bottom", "k"] "_law_pair" s_law_pair 3 (t_law_pair asp_law_shares asp_law_weights asp_law_take) := by
 intro f cdv A outer s H E hr tk ps
 refine jss_cons ?_ ?_
 · refine js_set (i := 2) sc_law_pair.nd (by rfl) (.inl (by rfl)) ?_
   · refine j_call' tk c_law_shares hr (by decide) (by rfl) ?_
     · refine ja_cons ?_ ?_
       · refine j_call' tk c_law_weights hr (by decide) (by rfl) ?_
         · refine ja_cons ?_ ?_
           · exact jv 0
           · refine ja_cons ?_ ?_
             · exact jv 1
             · refine ja_cons ?_ ?_
               · refine j_op op_addZ (rs_add false) ?_ ?_
                 · exact j_int
                 · refine j_call' tk c_law_take hr (by decide) (by rfl) ?_
                   · refine ja_cons ?_ ?_
                     · exact jv 0
                     · refine ja_cons ?_ ?_
                       · exact j_int
                       · exact ja_nil
               · exact ja_nil
       · exact ja_nil
 · refine jss_cons ?_ ?_
   · refine js_set (i := 3) sc_law_pair.nd (by rfl) (.inl (by rfl)) ?_
     · refine j_call' tk c_law_take hr (by decide) (by rfl) ?_
       · refine ja_cons ?_ ?_
         · exact jv 0
         · refine ja_cons ?_ ?_
           · exact j_int
           · exact ja_nil
   · refine jss_cons ?_ ?_
     · refine js_if ?_ ?_ ?_
       · refine jt_cmp (op_eqD (u64 hr)) rs_eq ?_ ?_ (by rfl)
         · exact jv 3
         · exact j_int
       · refine jss_one ?_
         · refine js_ret ?_
           · refine j_tup ?_
             · refine ja_cons ?_ ?_
               · exact jv 2
               · refine ja_cons ?_ ?_
                 · exact jv 2
                 · exact ja_nil
       · exact jss_nil
     · refine jss_cons ?_ ?_
       · refine js_if ?_ ?_ ?_
         · refine jt_cmp (op_eqD (u64 hr)) rs_eq ?_ ?_ (by rfl)
           · exact jv 3
           · exact j_int
         · refine jss_cons ?_ ?_
           · refine js_setLc (own := [("top", 8), ("bottom", 9)]) true (i := 4) (by rfl) sc_law_pair.nd (by rfl) (by rfl) (sw_true (by rfl) (by rfl) (by rfl) (by decide +kernel)) ?_ (blkOk_by (N := ["box", "size", "one", "way", "weights", "cut", "low", "high", "top", "bottom", "k"]) (sc := defScope s_law_pair) (by first | decide +kernel | kernel_rfl)) (by decide) (fun _ _ _ _ _ => ?_) (fun _ _ _ _ _ => ?_) (fun _ _ _ _ _ => ?_)
             · refine ji_seq ?_
               · exact jv 2
             · refine pg_tup (by rfl) ?_
               · refine pgs_cons ?_ ?_
                 · exact pg_name (i := 8) sc_law_pair.nd (by rfl) (Or.inl (by rfl))
                 · refine pgs_cons ?_ ?_
                   · exact pg_name (i := 9) sc_law_pair.nd (by rfl) (Or.inl (by rfl))
                   · exact pgs_nil
             · exact jts_nil
             · refine j_op op_fdivA rs_fdivA ?_ ?_
               · refine j_op op_mulZ (rs_mul false) ?_ ?_
                 · exact j_int
                 · exact jv 8
               · exact jv 9
           · refine jss_cons ?_ ?_
             · refine js_asg ?_ ?_
               · refine j_op op_addZ (rs_add false) ?_ ?_
                 · exact j_int
                 · refine j_call' tk c_law_take hr (by decide) (by rfl) ?_
                   · refine ja_cons ?_ ?_
                     · exact jv 0
                     · refine ja_cons ?_ ?_
                       · exact j_int
                       · exact ja_nil
               · refine jg_sub ?_ ?_ set_list rs_set (fun _ => by rfl)
                 · exact jv 4
                 · refine j_call' tk c_law_take hr (by decide) (by rfl) ?_
                   · refine ja_cons ?_ ?_
                     · exact jv 0
                     · refine ja_cons ?_ ?_
                       · exact jv 1
                       · exact ja_nil
             · refine jss_one ?_
               · refine js_ret ?_
                 · refine j_tup ?_
                   · refine ja_cons ?_ ?_
                     · exact jv 2
                     · refine ja_cons ?_ ?_
                       · refine j_call' tk c_law_shares hr (by decide) (by rfl) ?_
                         · refine ja_cons ?_ ?_
                           · exact jv 4
                           · exact ja_nil
                       · exact ja_nil
         · exact jss_nil
       · refine jss_cons ?_ ?_
         · refine js_if ?_ ?_ ?_
           · refine jt_cmp (op_eqD (u64 hr)) rs_eq ?_ ?_ (by rfl)
             · exact jv 3
             · exact j_int
           · refine jss_cons ?_ ?_
             · refine js_set (i := 5) sc_law_pair.nd (by rfl) (.inr (by rfl)) ?_
               · refine j_op op_addZ (rs_add false) ?_ ?_
                 · exact j_int
                 · refine j_call' tk c_law_take hr (by decide) (by rfl) ?_
                   · refine ja_cons ?_ ?_
                     · exact jv 0
                     · refine ja_cons ?_ ?_
                       · exact jv 1
                       · exact ja_nil
             · refine jss_cons ?_ ?_
               · refine js_setLc (own := [("k", 10)]) false (i := 6) (by rfl) sc_law_pair.nd (by rfl) (by rfl) (sw_true (by rfl) (by rfl) (by rfl) (by decide +kernel)) ?_ (blkOk_by (N := ["box", "size", "one", "way", "weights", "cut", "low", "high", "top", "bottom", "k"]) (sc := defScope s_law_pair) (by first | decide +kernel | kernel_rfl)) (by decide) (fun _ _ _ _ _ => ?_) (fun _ _ _ _ _ => ?_) (fun _ _ _ _ _ => ?_)
                 · refine ji_range1 (by rfl) m_range ?_
                   · refine ja_cons ?_ ?_
                     · exact jv 1
                     · exact ja_nil
                 · exact pg_name (i := 10) sc_law_pair.nd (by rfl) (Or.inl (by rfl))
                 · exact jts_nil
                 · refine j_ifExp ?_ ?_ ?_
                   · refine jt_cmp op_ltZ (rs_cmp _ _) ?_ ?_ (by rfl)
                     · exact jv 10
                     · exact jv 5
                   · refine j_op op_addZ (rs_add false) ?_ ?_
                     · exact j_int
                     · refine j_call' takes0 c_law_take hr (by decide) (by rfl) ?_
                       · refine ja_cons ?_ ?_
                         · exact jv 0
                         · refine ja_cons ?_ ?_
                           · exact j_int
                           · exact ja_nil
                   · exact j_int
               · refine jss_cons ?_ ?_
                 · refine js_setLc (own := [("k", 10)]) false (i := 7) (by rfl) sc_law_pair.nd (by rfl) (by rfl) (sw_true (by rfl) (by rfl) (by rfl) (by decide +kernel)) ?_ (blkOk_by (N := ["box", "size", "one", "way", "weights", "cut", "low", "high", "top", "bottom", "k"]) (sc := defScope s_law_pair) (by first | decide +kernel | kernel_rfl)) (by decide) (fun _ _ _ _ _ => ?_) (fun _ _ _ _ _ => ?_) (fun _ _ _ _ _ => ?_)
                   · refine ji_range1 (by rfl) m_range ?_
                     · refine ja_cons ?_ ?_
                       · exact jv 1
                       · exact ja_nil
                   · exact pg_name (i := 10) sc_law_pair.nd (by rfl) (Or.inl (by rfl))
                   · exact jts_nil
                   · refine j_ifExp ?_ ?_ ?_
                     · refine jt_cmp op_geZ (rs_cmp _ _) ?_ ?_ (by rfl)
                       · exact jv 10
                       · exact jv 5
                     · refine j_op op_addZ (rs_add false) ?_ ?_
                       · exact j_int
                       · refine j_call' takes0 c_law_take hr (by decide) (by rfl) ?_
                         · refine ja_cons ?_ ?_
                           · exact jv 0
                           · refine ja_cons ?_ ?_
                             · exact j_int
                             · exact ja_nil
                     · refine j_callTy call_intZ rs_int (by rfl) m_int (by rfl) ?_
                       · refine ja_cons ?_ ?_
                         · refine j_cmp (op_eqD (u64 hr)) rs_eq ?_ ?_ (by rfl)
                           · exact jv 5
                           · exact jv 1
                         · exact ja_nil
                 · refine jss_one ?_
                   · refine js_ret ?_
                     · refine j_tup ?_
                       · refine ja_cons ?_ ?_
                         · refine j_call' tk c_law_shares hr (by decide) (by rfl) ?_
                           · refine ja_cons ?_ ?_
                             · exact jv 6
                             · exact ja_nil
                         · refine ja_cons ?_ ?_
                           · refine j_call' tk c_law_shares hr (by decide) (by rfl) ?_
                             · refine ja_cons ?_ ?_
                               · exact jv 7
                               · exact ja_nil
                           · exact ja_nil
           · exact jss_nil
         · refine jss_one ?_
           · refine js_ret ?_
             · refine j_tup ?_
               · refine ja_cons ?_ ?_
                 · exact jv 2
                 · refine ja_cons ?_ ?_
                   · refine j_call' tk c_law_shares hr (by decide) (by rfl) ?_
                     · refine ja_cons ?_ ?_
                       · refine j_call' tk c_law_weights hr (by decide) (by rfl) ?_
                         · refine ja_cons ?_ ?_
                           · exact jv 0
                           · refine ja_cons ?_ ?_
                             · exact jv 1
                             · refine ja_cons ?_ ?_
                               · refine j_op op_addZ (rs_add false) ?_ ?_
                                 · exact j_int
                                 · refine j_call' tk c_law_take hr (by decide) (by rfl) ?_
                                   · refine ja_cons ?_ ?_
                                     · exact jv 0
                                     · refine ja_cons ?_ ?_
                                       · exact j_int
                                       · exact ja_nil
                               · exact ja_nil
                       · exact ja_nil
                   · exact ja_nil
theorem wk_law_event {asp_law_sum : ASp} {asp_law_less : ASp} (c_law_sum : Cal P w K mg base "_law_sum" s_law_sum ["items"] 4 asp_law_sum) (c_law_less : Cal P w K mg base "_law_less" s_law_less ["one", "other"] 3 asp_law_less) : Walk P w K mg base ["one", "other", "members", "k"] "_law_event" s_law_event 4 (t_law_event asp_law_sum asp_law_less) := by
 intro f cdv A outer s H E hr tk ps
 refine jss_one ?_
 · refine js_ret ?_
   · refine j_call' tk c_law_sum hr (by decide) (by rfl) ?_
     · refine ja_cons ?_ ?_
       · refine j_lc (own := [("k", 3)]) false (by rfl) sc_law_event.nd ?_ (blkOk_by (N := ["one", "other", "members", "k"]) (sc := defScope s_law_event) (by first | decide +kernel | kernel_rfl)) (by decide) (fun _ _ _ _ _ => ?_) (fun _ _ _ _ _ => ?_) (fun _ _ _ _ _ => ?_)
         · refine ji_seq ?_
           · exact jv 2
         · exact pg_name (i := 3) sc_law_event.nd (by rfl) (Or.inl (by rfl))
         · exact jts_nil
         · refine j_call' takes0 c_law_less hr (by decide) (by rfl) ?_
           · refine ja_cons ?_ ?_
             · refine j_ix ix_seq rs_ix ?_ ?_ (fun _ _ => by rfl)
               · exact jv 0
               · exact jv 3
             · refine ja_cons ?_ ?_
               · refine j_ix ix_seq rs_ix ?_ ?_ (fun _ _ => by rfl)
                 · exact jv 1
                 · exact jv 3
               · exact ja_nil
       · exact ja_nil
theorem wk_law_greatest {asp_law_event : ASp} {asp_law_below : ASp} (m_range : mg "range" = none) (m_len : mg "len" = none) (c_law_event : Cal P w K mg base "_law_event" s_law_event ["one", "other", "members"] 5 asp_law_event) (c_law_below : Cal P w K mg base "_law_below" s_law_below ["one", "other"] 1 asp_law_below) : Walk P w K mg base ["one", "other", "best", "mask", "gap_v", "k"] "_law_greatest" s_law_greatest 5 (t_law_greatest asp_law_event asp_law_below) := by
 intro f cdv A outer s H E hr tk ps
 refine jss_cons ?_ ?_
 · refine js_set (i := 2) sc_law_greatest.nd (by rfl) (.inl (by rfl)) ?_
   · refine j_tup ?_
     · refine ja_cons ?_ ?_
       · exact j_int
       · refine ja_cons ?_ ?_
         · exact j_int
         · exact ja_nil
 · refine jss_cons ?_ ?_
   · refine js_for ps (by rfl) ?_ ?_ ?_
     · refine ji_range1 (by rfl) m_range ?_
       · refine ja_cons ?_ ?_
         · refine j_op op_shl rs_shl ?_ ?_
           · exact j_int
           · refine j_callB call_lenZ rs_len (by rfl) m_len (by rfl) ?_
             · refine ja_cons ?_ ?_
               · exact jv 0
               · exact ja_nil
         · exact ja_nil
     · exact jg_name (i := 3) sc_law_greatest.nd (by rfl) (.inr (by rfl))
     · refine jss_cons ?_ ?_
       · refine js_set (i := 4) sc_law_greatest.nd (by rfl) (.inl (by rfl)) ?_
         · refine j_call' tk c_law_event hr (by decide) (by rfl) ?_
           · refine ja_cons ?_ ?_
             · exact jv 0
             · refine ja_cons ?_ ?_
               · exact jv 1
               · refine ja_cons ?_ ?_
                 · refine j_lc (own := [("k", 5)]) false (by rfl) sc_law_greatest.nd ?_ (blkOk_by (N := ["one", "other", "best", "mask", "gap_v", "k"]) (sc := defScope s_law_greatest) (by first | decide +kernel | kernel_rfl)) (by decide) (fun _ _ _ _ _ => ?_) (fun _ _ _ _ _ => ?_) (fun _ _ _ _ _ => ?_)
                   · refine ji_range1 (by rfl) m_range ?_
                     · refine ja_cons ?_ ?_
                       · refine j_callB call_lenZ rs_len (by rfl) m_len (by rfl) ?_
                         · refine ja_cons ?_ ?_
                           · exact jv 0
                           · exact ja_nil
                       · exact ja_nil
                   · exact pg_name (i := 5) sc_law_greatest.nd (by rfl) (Or.inl (by rfl))
                   · refine jts_one ?_
                     · refine jt_tru ?_
                       · refine j_op op_and rs_and ?_ ?_
                         · refine j_op op_shr rs_shr ?_ ?_
                           · exact jv 3
                           · exact jv 5
                         · exact j_int
                   · exact jv 5
                 · exact ja_nil
       · refine jss_one ?_
         · refine js_set (i := 2) sc_law_greatest.nd (by rfl) (.inl (by rfl)) ?_
           · refine j_ifExp ?_ ?_ ?_
             · refine jt ?_
               · refine j_call' tk c_law_below hr (by decide) (by rfl) ?_
                 · refine ja_cons ?_ ?_
                   · exact jv 2
                   · refine ja_cons ?_ ?_
                     · exact jv 4
                     · exact ja_nil
             · exact jv 4
             · exact jv 2
   · refine jss_one ?_
     · refine js_ret ?_
       · exact jv 2
theorem wk_law_apart {asp_law_less : ASp} {asp_law_div : ASp} {asp_law_below : ASp} (m_zip : mg "zip" = none) (c_law_less : Cal P w K mg base "_law_less" s_law_less ["one", "other"] 3 asp_law_less) (c_law_div : Cal P w K mg base "_law_div" s_law_div ["one", "other"] 3 asp_law_div) (c_law_below : Cal P w K mg base "_law_below" s_law_below ["one", "other"] 1 asp_law_below) : Walk P w K mg base ["one", "other", "found", "a", "b", "gap_v"] "_law_apart" s_law_apart 3 (t_law_apart asp_law_less asp_law_div asp_law_below) := by
 intro f cdv A outer s H E hr tk ps
 refine jss_cons ?_ ?_
 · refine js_set (i := 2) sc_law_apart.nd (by rfl) (.inl (by rfl)) ?_
   · exact j_non
 · refine jss_cons ?_ ?_
   · refine js_for ps (by rfl) ?_ ?_ ?_
     · refine ji_zip (by rfl) m_zip ?_
       · refine ja_cons ?_ ?_
         · exact jv 0
         · refine ja_cons ?_ ?_
           · exact jv 1
           · exact ja_nil
     · refine jg_tup (by rfl) ?_
       · refine jgs_cons ?_ ?_
         · exact jg_name (i := 3) sc_law_apart.nd (by rfl) (.inl (by rfl))
         · refine jgs_cons ?_ ?_
           · exact jg_name (i := 4) sc_law_apart.nd (by rfl) (.inl (by rfl))
           · exact jgs_nil
     · refine jss_one ?_
       · refine js_if ?_ ?_ ?_
         · refine jt_cmp op_gtZ (rs_cmp _ _) ?_ ?_ (by rfl)
           · refine j_ix ix_seq rs_ix ?_ ?_ (fun _ _ => by rfl)
             · exact jv 4
             · exact j_int
           · exact j_int
         · refine jss_cons ?_ ?_
           · refine js_set (i := 5) sc_law_apart.nd (by rfl) (.inl (by rfl)) ?_
             · refine j_call' tk c_law_less hr (by decide) (by rfl) ?_
               · refine ja_cons ?_ ?_
                 · refine j_tup ?_
                   · refine ja_cons ?_ ?_
                     · exact j_int
                     · refine ja_cons ?_ ?_
                       · exact j_int
                       · exact ja_nil
                 · refine ja_cons ?_ ?_
                   · refine j_call' tk c_law_div hr (by decide) (by rfl) ?_
                     · refine ja_cons ?_ ?_
                       · exact jv 3
                       · refine ja_cons ?_ ?_
                         · exact jv 4
                         · exact ja_nil
                   · exact ja_nil
           · refine jss_one ?_
             · refine js_set (i := 2) sc_law_apart.nd (by rfl) (.inl (by rfl)) ?_
               · refine j_ifExp ?_ ?_ ?_
                 · refine jt_bool ?_
                   · refine jw_or ?_ ?_
                     · refine jt_cmp op_isZ (rs_is false) ?_ ?_ (by rfl)
                       · exact jv 2
                       · exact j_non
                     · refine jw_or1 ?_
                       · refine jt ?_
                         · refine j_call' tk c_law_below hr (by decide) (by rfl) ?_
                           · refine ja_cons ?_ ?_
                             · exact jv 2
                             · refine ja_cons ?_ ?_
                               · exact jv 5
                               · exact ja_nil
                 · exact jv 5
                 · exact jv 2
         · exact jss_nil
   · refine jss_one ?_
     · refine js_ret ?_
       · exact jv 2
theorem wk_law_is_set (m_bool : mg "bool" = none) (m_isinstance : mg "isinstance" = none) (m_int : mg "int" = none) (m_tuple : mg "tuple" = none) (m_range : mg "range" = none) (m_len : mg "len" = none) : Walk P w K mg base ["size", "value", "k"] "_law_is_set" s_law_is_set 0 (t_law_is_set) := by
 intro f cdv A outer s H E hr tk ps
 refine jss_cons ?_ ?_
 · refine js_if ?_ ?_ ?_
   · refine jt_bool ?_
     · refine jw_or ?_ ?_
       · refine jt_not ?_
         · refine jt ?_
           · refine j_callB call_isi rs_isi (by rfl) m_isinstance (by rfl) ?_
             · refine ja_cons ?_ ?_
               · exact jv 1
               · refine ja_cons ?_ ?_
                 · exact j_ty (by rfl) m_tuple (by rfl)
                 · exact ja_nil
       · refine jw_or1 ?_
         · refine jt_cmp (op_neD (u64 hr)) rs_ne ?_ ?_ (by rfl)
           · refine j_lc (own := [("k", 2)]) false (by rfl) sc_law_is_set.nd ?_ (blkOk_by (N := ["size", "value", "k"]) (sc := defScope s_law_is_set) (by first | decide +kernel | kernel_rfl)) (by decide) (fun _ _ _ _ _ => ?_) (fun _ _ _ _ _ => ?_) (fun _ _ _ _ _ => ?_)
             · refine ji_seq ?_
               · exact jv 1
             · exact pg_name (i := 2) sc_law_is_set.nd (by rfl) (Or.inl (by rfl))
             · refine jts_one ?_
               · refine jt_bool ?_
                 · refine jw_or ?_ ?_
                   · refine jt_not ?_
                     · refine jt ?_
                       · refine j_callB call_isi rs_isi (by rfl) m_isinstance (by rfl) ?_
                         · refine ja_cons ?_ ?_
                           · exact jv 2
                           · refine ja_cons ?_ ?_
                             · exact j_ty (by rfl) m_int (by rfl)
                             · exact ja_nil
                   · refine jw_or ?_ ?_
                     · refine jt ?_
                       · refine j_callB call_isi rs_isi (by rfl) m_isinstance (by rfl) ?_
                         · refine ja_cons ?_ ?_
                           · exact jv 2
                           · refine ja_cons ?_ ?_
                             · exact j_ty (by rfl) m_bool (by rfl)
                             · exact ja_nil
                     · refine jw_or1 ?_
                       · refine jt_not ?_
                         · refine jt_chain op_leZ op_ltZ (rs_cmp _ _) (rs_cmp _ _) ?_ ?_ ?_
                           · exact j_int
                           · exact jv 2
                           · exact jv 0
             · exact jv 2
           · refine j_lst false ?_
             · exact ja_nil
   · refine jss_one ?_
     · refine js_ret ?_
       · exact j_bl
   · exact jss_nil
 · refine jss_one ?_
   · refine js_ret ?_
     · refine j_cmp (op_eqD (u64 hr)) rs_eq ?_ ?_ (by rfl)
       · refine j_lc (own := [("k", 2)]) false (by rfl) sc_law_is_set.nd ?_ (blkOk_by (N := ["size", "value", "k"]) (sc := defScope s_law_is_set) (by first | decide +kernel | kernel_rfl)) (by decide) (fun _ _ _ _ _ => ?_) (fun _ _ _ _ _ => ?_) (fun _ _ _ _ _ => ?_)
         · refine ji_range2 (by rfl) m_range ?_
           · refine ja_cons ?_ ?_
             · exact j_int
             · refine ja_cons ?_ ?_
               · refine j_callB call_lenZ rs_len (by rfl) m_len (by rfl) ?_
                 · refine ja_cons ?_ ?_
                   · exact jv 1
                   · exact ja_nil
               · exact ja_nil
         · exact pg_name (i := 2) sc_law_is_set.nd (by rfl) (Or.inl (by rfl))
         · refine jts_one ?_
           · refine jt_cmp op_geZ (rs_cmp _ _) ?_ ?_ (by rfl)
             · refine j_ix ix_seq rs_ix ?_ ?_ (fun _ _ => by rfl)
               · exact jv 1
               · refine j_op op_sub rs_sub ?_ ?_
                 · exact jv 2
                 · exact j_int
             · refine j_ix ix_seq rs_ix ?_ ?_ (fun _ _ => by rfl)
               · exact jv 1
               · exact jv 2
         · exact jv 2
       · refine j_lst false ?_
         · exact ja_nil
theorem wk_law_asked {asp_variation : ASp} {asp_best_event : ASp} {asp_separation : ASp} {C_InvalidDistribution : Addr} (c_variation : Cal P w K mg base "variation" s_variation ["one", "other"] 6 asp_variation) (c_best_event : Cal P w K mg base "best_event" s_best_event ["one", "other"] 6 asp_best_event) (c_separation : Cal P w K mg base "separation" s_separation ["one", "other"] 6 asp_separation) (e_InvalidDistribution : Err1 P w K mg base "InvalidDistribution" "given" C_InvalidDistribution) : Walk P w K mg base ["turn", "one", "other", "named", "e"] "_law_asked" s_law_asked 6 (t_law_asked asp_variation asp_best_event asp_separation C_InvalidDistribution (PySem.W.exmOne K)) := by
 intro f cdv A outer s H E hr tk ps
 refine jss_one ?_
 · refine js_try (by rfl) (by rfl) sc_law_asked.nd tk (fun W pn xe tk ps => ?_) ?_
   · refine jss_cons ?_ ?_
     · refine js_if ?_ ?_ ?_
       · refine jt_cmp (op_eqD (u64 hr)) rs_eq ?_ ?_ (by rfl)
         · exact jv 0
         · exact j_int
       · refine jss_one ?_
         · refine js_ret ?_
           · refine j_ifExp ?_ ?_ ?_
             · refine jt ?_
               · exact jv 3
             · refine j_callK0' tk c_variation hr (by decide) (by rfl) kb_variation_0_other_one ?_
               · refine jk_cons ?_ ?_
                 · exact jv 2
                 · refine jk_cons ?_ ?_
                   · exact jv 1
                   · exact jk_nil
             · refine j_call' tk c_variation hr (by decide) (by rfl) ?_
               · refine ja_cons ?_ ?_
                 · exact jv 1
                 · refine ja_cons ?_ ?_
                   · exact jv 2
                   · exact ja_nil
       · exact jss_nil
     · refine jss_cons ?_ ?_
       · refine js_if ?_ ?_ ?_
         · refine jt_cmp (op_eqD (u64 hr)) rs_eq ?_ ?_ (by rfl)
           · exact jv 0
           · exact j_int
         · refine jss_one ?_
           · refine js_ret ?_
             · refine j_ifExp ?_ ?_ ?_
               · refine jt ?_
                 · exact jv 3
               · refine j_callK0' tk c_best_event hr (by decide) (by rfl) kb_best_event_0_other_one ?_
                 · refine jk_cons ?_ ?_
                   · exact jv 2
                   · refine jk_cons ?_ ?_
                     · exact jv 1
                     · exact jk_nil
               · refine j_call' tk c_best_event hr (by decide) (by rfl) ?_
                 · refine ja_cons ?_ ?_
                   · exact jv 1
                   · refine ja_cons ?_ ?_
                     · exact jv 2
                     · exact ja_nil
         · exact jss_nil
       · refine jss_one ?_
         · refine js_ret ?_
           · refine j_ifExp ?_ ?_ ?_
             · refine jt ?_
               · exact jv 3
             · refine j_callK0' tk c_separation hr (by decide) (by rfl) kb_separation_0_other_one ?_
               · refine jk_cons ?_ ?_
                 · exact jv 2
                 · refine jk_cons ?_ ?_
                   · exact jv 1
                   · exact jk_nil
             · refine j_call' tk c_separation hr (by decide) (by rfl) ?_
               · refine ja_cons ?_ ?_
                 · exact jv 1
                 · refine ja_cons ?_ ?_
                   · exact jv 2
                   · exact ja_nil
   · refine HdsA.cons (names_own (by rfl) e_InvalidDistribution.gC) ⟨by rfl, by rfl⟩ (fun a oe cls dd pn hz hf => ?_) ?_
     · refine jss_one ?_
       · refine js_ret ?_
         · refine j_lst false ?_
           · refine ja_cons ?_ ?_
             · exact j_str
             · refine ja_cons ?_ ?_
               · refine j_xf e_InvalidDistribution.xf e_InvalidDistribution.hno hz hf ?_
                 · exact jv 4
               · exact ja_nil
     · exact HdsA.nil
theorem wk_law_near {asp_law_take : ASp} {asp_law_add : ASp} {asp_law_less : ASp} (m_len : mg "len" = none) (c_law_take : Cal P w K mg base "_law_take" s_law_take ["box", "many"] 1 asp_law_take) (m_list : mg "list" = none) (m_int : mg "int" = none) (c_law_add : Cal P w K mg base "_law_add" s_law_add ["one", "other"] 3 asp_law_add) (c_law_less : Cal P w K mg base "_law_less" s_law_less ["one", "other"] 3 asp_law_less) (m_tuple : mg "tuple" = none) : Walk P w K mg base ["box", "one", "size", "at", "top", "bottom", "menu", "other", "row"] "_law_near" s_law_near 3 (t_law_near asp_law_take asp_law_add asp_law_less) := by
 intro f cdv A outer s H E hr tk ps
 refine jss_cons ?_ ?_
 · refine js_set (i := 2) sc_law_near.nd (by rfl) (.inl (by rfl)) ?_
   · refine j_callB call_lenZ rs_len (by rfl) m_len (by rfl) ?_
     · refine ja_cons ?_ ?_
       · exact jv 1
       · exact ja_nil
 · refine jss_cons ?_ ?_
   · refine js_set (i := 3) sc_law_near.nd (by rfl) (.inl (by rfl)) ?_
     · refine j_call' tk c_law_take hr (by decide) (by rfl) ?_
       · refine ja_cons ?_ ?_
         · exact jv 0
         · refine ja_cons ?_ ?_
           · exact jv 2
           · exact ja_nil
   · refine jss_cons ?_ ?_
     · refine js_asg ?_ ?_
       · refine j_ix ix_seq rs_ix ?_ ?_ (fun _ _ => by rfl)
         · exact jv 1
         · exact jv 3
       · refine jg_tup (by rfl) ?_
         · refine jgs_cons ?_ ?_
           · exact jg_name (i := 4) sc_law_near.nd (by rfl) (.inl (by rfl))
           · refine jgs_cons ?_ ?_
             · exact jg_name (i := 5) sc_law_near.nd (by rfl) (.inl (by rfl))
             · exact jgs_nil
     · refine jss_cons ?_ ?_
       · refine js_set (i := 6) sc_law_near.nd (by rfl) (.inl (by rfl)) ?_
         · refine j_lst false ?_
           · refine ja_cons ?_ ?_
             · refine j_callTy call_lstZ (rs_list false) (by rfl) m_list (by rfl) ?_
               · refine ja_cons ?_ ?_
                 · exact jv 1
                 · exact ja_nil
             · refine ja_cons ?_ ?_
               · refine j_op op_addZ (rs_add false) ?_ ?_
                 · exact jv 1
                 · refine j_tup ?_
                   · refine ja_cons ?_ ?_
                     · refine j_tup ?_
                       · refine ja_cons ?_ ?_
                         · exact j_int
                         · refine ja_cons ?_ ?_
                           · exact j_int
                           · exact ja_nil
                     · exact ja_nil
               · refine ja_cons ?_ ?_
                 · refine j_slice false ?_ ?_ ?_
                   · exact jv 1
                   · exact jo_none
                   · refine jo_some ?_
                     · refine j_un un_neg rs_neg ?_
                       · exact j_int
                 · refine ja_cons ?_ ?_
                   · exact j_non
                   · refine ja_cons ?_ ?_
                     · exact j_str
                     · refine ja_cons ?_ ?_
                       · refine j_op op_addZ (rs_add false) ?_ ?_
                         · refine j_op op_addZ (rs_add false) ?_ ?_
                           · refine j_slice false ?_ ?_ ?_
                             · exact jv 1
                             · exact jo_none
                             · refine jo_some ?_
                               · exact jv 3
                           · refine j_tup ?_
                             · refine ja_cons ?_ ?_
                               · refine j_tup ?_
                                 · refine ja_cons ?_ ?_
                                   · refine j_op op_addZ (rs_add false) ?_ ?_
                                     · exact jv 4
                                     · exact j_int
                                   · refine ja_cons ?_ ?_
                                     · exact jv 5
                                     · exact ja_nil
                               · exact ja_nil
                         · refine j_slice false ?_ ?_ ?_
                           · exact jv 1
                           · refine jo_some ?_
                             · refine j_op op_addZ (rs_add false) ?_ ?_
                               · exact jv 3
                               · exact j_int
                           · exact jo_none
                       · refine ja_cons ?_ ?_
                         · refine j_op op_addZ (rs_add false) ?_ ?_
                           · refine j_op op_addZ (rs_add false) ?_ ?_
                             · refine j_slice false ?_ ?_ ?_
                               · exact jv 1
                               · exact jo_none
                               · refine jo_some ?_
                                 · exact jv 3
                             · refine j_tup ?_
                               · refine ja_cons ?_ ?_
                                 · exact j_non
                                 · exact ja_nil
                           · refine j_slice false ?_ ?_ ?_
                             · exact jv 1
                             · refine jo_some ?_
                               · refine j_op op_addZ (rs_add false) ?_ ?_
                                 · exact jv 3
                                 · exact j_int
                             · exact jo_none
                         · exact ja_nil
       · refine jss_cons ?_ ?_
         · refine js_set (i := 6) sc_law_near.nd (by rfl) (.inl (by rfl)) ?_
           · refine j_op op_addZ (rs_add false) ?_ ?_
             · exact jv 6
             · refine j_lst false ?_
               · refine ja_cons ?_ ?_
                 · refine j_op op_addZ (rs_add false) ?_ ?_
                   · refine j_op op_addZ (rs_add false) ?_ ?_
                     · refine j_slice false ?_ ?_ ?_
                       · exact jv 1
                       · exact jo_none
                       · refine jo_some ?_
                         · exact jv 3
                     · refine j_tup ?_
                       · refine ja_cons ?_ ?_
                         · refine j_lst false ?_
                           · refine ja_cons ?_ ?_
                             · exact jv 4
                             · refine ja_cons ?_ ?_
                               · exact jv 5
                               · exact ja_nil
                         · exact ja_nil
                   · refine j_slice false ?_ ?_ ?_
                     · exact jv 1
                     · refine jo_some ?_
                       · refine j_op op_addZ (rs_add false) ?_ ?_
                         · exact jv 3
                         · exact j_int
                     · exact jo_none
                 · refine ja_cons ?_ ?_
                   · refine j_op op_addZ (rs_add false) ?_ ?_
                     · refine j_op op_addZ (rs_add false) ?_ ?_
                       · refine j_slice false ?_ ?_ ?_
                         · exact jv 1
                         · exact jo_none
                         · refine jo_some ?_
                           · exact jv 3
                       · refine j_tup ?_
                         · refine ja_cons ?_ ?_
                           · refine j_tup ?_
                             · refine ja_cons ?_ ?_
                               · refine j_op op_mulZ (rs_mul false) ?_ ?_
                                 · exact j_int
                                 · exact jv 4
                               · refine ja_cons ?_ ?_
                                 · refine j_op op_mulZ (rs_mul false) ?_ ?_
                                   · exact j_int
                                   · exact jv 5
                                 · exact ja_nil
                           · exact ja_nil
                     · refine j_slice false ?_ ?_ ?_
                       · exact jv 1
                       · refine jo_some ?_
                         · refine j_op op_addZ (rs_add false) ?_ ?_
                           · exact jv 3
                           · exact j_int
                       · exact jo_none
                   · refine ja_cons ?_ ?_
                     · refine j_op op_addZ (rs_add false) ?_ ?_
                       · refine j_op op_addZ (rs_add false) ?_ ?_
                         · refine j_slice false ?_ ?_ ?_
                           · exact jv 1
                           · exact jo_none
                           · refine jo_some ?_
                             · exact jv 3
                         · refine j_tup ?_
                           · refine ja_cons ?_ ?_
                             · refine j_tup ?_
                               · refine ja_cons ?_ ?_
                                 · exact jv 4
                                 · refine ja_cons ?_ ?_
                                   · exact jv 5
                                   · refine ja_cons ?_ ?_
                                     · exact j_int
                                     · exact ja_nil
                             · exact ja_nil
                       · refine j_slice false ?_ ?_ ?_
                         · exact jv 1
                         · refine jo_some ?_
                           · refine j_op op_addZ (rs_add false) ?_ ?_
                             · exact jv 3
                             · exact j_int
                         · exact jo_none
                     · exact ja_nil
         · refine jss_cons ?_ ?_
           · refine js_set (i := 6) sc_law_near.nd (by rfl) (.inl (by rfl)) ?_
             · refine j_op op_addZ (rs_add false) ?_ ?_
               · exact jv 6
               · refine j_lst false ?_
                 · refine ja_cons ?_ ?_
                   · refine j_op op_addZ (rs_add false) ?_ ?_
                     · refine j_op op_addZ (rs_add false) ?_ ?_
                       · refine j_slice false ?_ ?_ ?_
                         · exact jv 1
                         · exact jo_none
                         · refine jo_some ?_
                           · exact jv 3
                       · refine j_tup ?_
                         · refine ja_cons ?_ ?_
                           · refine j_tup ?_
                             · refine ja_cons ?_ ?_
                               · refine j_un un_neg rs_neg ?_
                                 · exact j_int
                               · refine ja_cons ?_ ?_
                                 · exact j_int
                                 · exact ja_nil
                           · exact ja_nil
                     · refine j_slice false ?_ ?_ ?_
                       · exact jv 1
                       · refine jo_some ?_
                         · refine j_op op_addZ (rs_add false) ?_ ?_
                           · exact jv 3
                           · exact j_int
                       · exact jo_none
                   · refine ja_cons ?_ ?_
                     · refine j_ifExp ?_ ?_ ?_
                       · refine jt_cmp (op_eqD (u64 hr)) rs_eq ?_ ?_ (by rfl)
                         · exact jv 5
                         · exact j_int
                       · refine j_op op_addZ (rs_add false) ?_ ?_
                         · refine j_op op_addZ (rs_add false) ?_ ?_
                           · refine j_slice false ?_ ?_ ?_
                             · exact jv 1
                             · exact jo_none
                             · refine jo_some ?_
                               · exact jv 3
                           · refine j_tup ?_
                             · refine ja_cons ?_ ?_
                               · refine j_tup ?_
                                 · refine ja_cons ?_ ?_
                                   · exact jv 4
                                   · refine ja_cons ?_ ?_
                                     · exact j_bl
                                     · exact ja_nil
                               · exact ja_nil
                         · refine j_slice false ?_ ?_ ?_
                           · exact jv 1
                           · refine jo_some ?_
                             · refine j_op op_addZ (rs_add false) ?_ ?_
                               · exact jv 3
                               · exact j_int
                           · exact jo_none
                       · refine j_op op_mulX (rs_mulX false) ?_ ?_
                         · refine j_tup ?_
                           · refine ja_cons ?_ ?_
                             · refine j_tup ?_
                               · refine ja_cons ?_ ?_
                                 · refine j_un un_neg rs_neg ?_
                                   · exact jv 4
                                 · refine ja_cons ?_ ?_
                                   · refine j_un un_neg rs_neg ?_
                                     · exact jv 5
                                   · exact ja_nil
                             · exact ja_nil
                         · exact jv 2
                     · refine ja_cons ?_ ?_
                       · refine j_tup ?_
                         · exact ja_nil
                       · refine ja_cons ?_ ?_
                         · exact j_int
                         · exact ja_nil
           · refine jss_cons ?_ ?_
             · refine js_if ?_ ?_ ?_
               · refine jt_cmp op_gtZ (rs_cmp _ _) ?_ ?_ (by rfl)
                 · exact jv 2
                 · exact j_int
               · refine jss_cons ?_ ?_
                 · refine js_set (i := 7) sc_law_near.nd (by rfl) (.inl (by rfl)) ?_
                   · refine j_op op_modN rs_mod ?_ ?_
                     · refine j_callTy call_intZ rs_int (by rfl) m_int (by rfl) ?_
                       · refine ja_cons ?_ ?_
                         · refine j_op op_addZ (rs_add false) ?_ ?_
                           · exact jv 3
                           · exact j_int
                         · exact ja_nil
                     · exact jv 2
                 · refine jss_cons ?_ ?_
                   · refine js_set (i := 8) sc_law_near.nd (by rfl) (.inl (by rfl)) ?_
                     · refine j_callTy call_lstZ (rs_list true) (by rfl) m_list (by rfl) ?_
                       · refine ja_cons ?_ ?_
                         · exact jv 1
                         · exact ja_nil
                   · refine jss_cons ?_ ?_
                     · refine js_asg ?_ ?_
                       · refine j_tup ?_
                         · refine ja_cons ?_ ?_
                           · refine j_call' tk c_law_add hr (by decide) (by rfl) ?_
                             · refine ja_cons ?_ ?_
                               · refine j_ix ix_seq rs_ix ?_ ?_ (fun _ _ => by rfl)
                                 · exact jv 1
                                 · exact jv 3
                               · refine ja_cons ?_ ?_
                                 · refine j_tup ?_
                                   · refine ja_cons ?_ ?_
                                     · exact j_int
                                     · refine ja_cons ?_ ?_
                                       · exact j_int
                                       · exact ja_nil
                                 · exact ja_nil
                           · refine ja_cons ?_ ?_
                             · refine j_call' tk c_law_less hr (by decide) (by rfl) ?_
                               · refine ja_cons ?_ ?_
                                 · refine j_ix ix_seq rs_ix ?_ ?_ (fun _ _ => by rfl)
                                   · exact jv 1
                                   · exact jv 7
                                 · refine ja_cons ?_ ?_
                                   · refine j_tup ?_
                                     · refine ja_cons ?_ ?_
                                       · exact j_int
                                       · refine ja_cons ?_ ?_
                                         · exact j_int
                                         · exact ja_nil
                                   · exact ja_nil
                             · exact ja_nil
                       · refine jg_tup (by rfl) ?_
                         · refine jgs_cons ?_ ?_
                           · refine jg_sub ?_ ?_ set_list rs_set (fun _ => by rfl)
                             · exact jv 8
                             · exact jv 3
                           · refine jgs_cons ?_ ?_
                             · refine jg_sub ?_ ?_ set_list rs_set (fun _ => by rfl)
                               · exact jv 8
                               · exact jv 7
                             · exact jgs_nil
                     · refine jss_one ?_
                       · refine js_set (i := 6) sc_law_near.nd (by rfl) (.inl (by rfl)) ?_
                         · refine j_op op_addZ (rs_add false) ?_ ?_
                           · exact jv 6
                           · refine j_op op_mulZ (rs_mul false) ?_ ?_
                             · refine j_lst false ?_
                               · refine ja_cons ?_ ?_
                                 · refine j_callTy call_tupZ rs_tuple (by rfl) m_tuple (by rfl) ?_
                                   · refine ja_cons ?_ ?_
                                     · exact jv 8
                                     · exact ja_nil
                                 · exact ja_nil
                             · refine j_callTy call_intZ rs_int (by rfl) m_int (by rfl) ?_
                               · refine ja_cons ?_ ?_
                                 · refine j_cmp op_ltZ (rs_cmp _ _) ?_ ?_ (by rfl)
                                   · refine j_ix ix_seq rs_ix ?_ ?_ (fun _ _ => by rfl)
                                     · refine j_ix ix_seq rs_ix ?_ ?_ (fun _ _ => by rfl)
                                       · exact jv 8
                                       · exact jv 7
                                     · exact j_int
                                   · exact j_int
                                 · exact ja_nil
               · exact jss_nil
             · refine jss_one ?_
               · refine js_ret ?_
                 · refine j_ix ix_seq rs_ix ?_ ?_ (fun _ _ => by rfl)
                   · exact jv 6
                   · refine j_call' tk c_law_take hr (by decide) (by rfl) ?_
                     · refine ja_cons ?_ ?_
                       · exact jv 0
                       · refine ja_cons ?_ ?_
                         · refine j_callB call_lenZ rs_len (by rfl) m_len (by rfl) ?_
                           · refine ja_cons ?_ ?_
                             · exact jv 6
                             · exact ja_nil
                         · exact ja_nil
theorem wk_law_refusals_right {asp_law_near : ASp} {asp_law_same : ASp} {asp_law_asked : ASp} (m_range : mg "range" = none) (c_law_near : Cal P w K mg base "_law_near" s_law_near ["box", "one"] 4 asp_law_near) (m_len : mg "len" = none) (m_tuple : mg "tuple" = none) (m_isinstance : mg "isinstance" = none) (c_law_same : Cal P w K mg base "_law_same" s_law_same ["told", "due"] 5 asp_law_same) (c_law_asked : Cal P w K mg base "_law_asked" s_law_asked ["turn", "one", "other", "named"] 7 asp_law_asked) : Walk P w K mg base ["box", "one", "other", "turn", "first", "second"] "_law_refusals_right" s_law_refusals_right 7 (t_law_refusals_right asp_law_near asp_law_same asp_law_asked) := by
 intro f cdv A outer s H E hr tk ps
 refine jss_cons ?_ ?_
 · refine js_for ps (by rfl) ?_ ?_ ?_
   · refine ji_range1 (by rfl) m_range ?_
     · refine ja_cons ?_ ?_
       · exact j_int
       · exact ja_nil
   · exact jg_name (i := 3) sc_law_refusals_right.nd (by rfl) (.inl (by rfl))
   · refine jss_cons ?_ ?_
     · refine js_par (i := 4) (j := 5) (by rfl) sc_law_refusals_right.nd (by rfl) (by rfl) (by decide) (by rfl) (by rfl) ?_
       · refine ja_cons ?_ ?_
         · refine j_call' tk c_law_near hr (by decide) (by rfl) ?_
           · refine ja_cons ?_ ?_
             · exact jv 0
             · refine ja_cons ?_ ?_
               · exact jv 1
               · exact ja_nil
         · refine ja_cons ?_ ?_
           · refine j_call' tk c_law_near hr (by decide) (by rfl) ?_
             · refine ja_cons ?_ ?_
               · exact jv 0
               · refine ja_cons ?_ ?_
                 · exact jv 2
                 · exact ja_nil
           · exact ja_nil
     · refine jss_cons ?_ ?_
       · refine js_if ?_ ?_ ?_
         · refine jt_bool ?_
           · refine jw_and ?_ ?_
             · refine jt ?_
               · refine j_callB call_isi rs_isi (by rfl) m_isinstance (by rfl) ?_
                 · refine ja_cons ?_ ?_
                   · exact jv 4
                   · refine ja_cons ?_ ?_
                     · exact j_ty (by rfl) m_tuple (by rfl)
                     · exact ja_nil
             · refine jw_and ?_ ?_
               · refine jt_cmp (op_eqD (u64 hr)) rs_eq ?_ ?_ (by rfl)
                 · exact jv 4
                 · refine j_slice false ?_ ?_ ?_
                   · exact jv 1
                   · exact jo_none
                   · refine jo_some ?_
                     · refine j_un un_neg rs_neg ?_
                       · exact j_int
               · refine jw_and ?_ ?_
                 · refine jt_cmp op_gtZ (rs_cmp _ _) ?_ ?_ (by rfl)
                   · refine j_callB call_lenZ rs_len (by rfl) m_len (by rfl) ?_
                     · refine ja_cons ?_ ?_
                       · exact jv 1
                       · exact ja_nil
                   · exact j_int
                 · refine jw_and1 ?_
                   · refine jt_cmp (op_eqD (u64 hr)) rs_eq ?_ ?_ (by rfl)
                     · refine j_ix ix_seq rs_ix ?_ ?_ (fun _ _ => by rfl)
                       · exact jv 1
                       · refine j_un un_neg rs_neg ?_
                         · exact j_int
                     · refine j_tup ?_
                       · refine ja_cons ?_ ?_
                         · exact j_int
                         · refine ja_cons ?_ ?_
                           · exact j_int
                           · exact ja_nil
         · refine jss_one ?_
           · refine js_set (i := 4) sc_law_refusals_right.nd (by rfl) (.inl (by rfl)) ?_
             · exact j_non
         · exact jss_nil
       · refine jss_cons ?_ ?_
         · refine js_if ?_ ?_ ?_
           · refine jt_bool ?_
             · refine jw_and ?_ ?_
               · refine jt ?_
                 · refine j_callB call_isi rs_isi (by rfl) m_isinstance (by rfl) ?_
                   · refine ja_cons ?_ ?_
                     · exact jv 4
                     · refine ja_cons ?_ ?_
                       · exact j_ty (by rfl) m_tuple (by rfl)
                       · exact ja_nil
               · refine jw_and ?_ ?_
                 · refine jt_cmp (op_eqD (u64 hr)) rs_eq ?_ ?_ (by rfl)
                   · exact jv 4
                   · refine j_op op_addZ (rs_add false) ?_ ?_
                     · exact jv 1
                     · refine j_tup ?_
                       · refine ja_cons ?_ ?_
                         · refine j_tup ?_
                           · refine ja_cons ?_ ?_
                             · exact j_int
                             · refine ja_cons ?_ ?_
                               · exact j_int
                               · exact ja_nil
                         · exact ja_nil
                 · refine jw_and1 ?_
                   · refine jt_cmp op_ltZ (rs_cmp _ _) ?_ ?_ (by rfl)
                     · refine j_callB call_lenZ rs_len (by rfl) m_len (by rfl) ?_
                       · refine ja_cons ?_ ?_
                         · exact jv 1
                         · exact ja_nil
                     · exact j_int
           · refine jss_one ?_
             · refine js_set (i := 4) sc_law_refusals_right.nd (by rfl) (.inl (by rfl)) ?_
               · exact j_str
           · exact jss_nil
         · refine jss_cons ?_ ?_
           · refine js_if ?_ ?_ ?_
             · refine jt_not ?_
               · refine jt ?_
                 · refine j_call' tk c_law_same hr (by decide) (by rfl) ?_
                   · refine ja_cons ?_ ?_
                     · refine j_call' tk c_law_asked hr (by decide) (by rfl) ?_
                       · refine ja_cons ?_ ?_
                         · exact jv 3
                         · refine ja_cons ?_ ?_
                           · exact jv 4
                           · refine ja_cons ?_ ?_
                             · exact jv 5
                             · refine ja_cons ?_ ?_
                               · refine j_cmp (op_eqD (u64 hr)) rs_eq ?_ ?_ (by rfl)
                                 · exact jv 3
                                 · exact j_int
                               · exact ja_nil
                     · refine ja_cons ?_ ?_
                       · refine j_lst false ?_
                         · refine ja_cons ?_ ?_
                           · exact j_str
                           · refine ja_cons ?_ ?_
                             · exact jv 4
                             · exact ja_nil
                       · exact ja_nil
             · refine jss_one ?_
               · refine js_ret ?_
                 · exact j_bl
             · exact jss_nil
           · refine jss_one ?_
             · refine js_if ?_ ?_ ?_
               · refine jt_not ?_
                 · refine jt ?_
                   · refine j_call' tk c_law_same hr (by decide) (by rfl) ?_
                     · refine ja_cons ?_ ?_
                       · refine j_call' tk c_law_asked hr (by decide) (by rfl) ?_
                         · refine ja_cons ?_ ?_
                           · exact jv 3
                           · refine ja_cons ?_ ?_
                             · exact jv 1
                             · refine ja_cons ?_ ?_
                               · exact jv 5
                               · refine ja_cons ?_ ?_
                                 · refine j_cmp (op_neD (u64 hr)) rs_ne ?_ ?_ (by rfl)
                                   · exact jv 3
                                   · exact j_int
                                 · exact ja_nil
                       · refine ja_cons ?_ ?_
                         · refine j_lst false ?_
                           · refine ja_cons ?_ ?_
                             · exact j_str
                             · refine ja_cons ?_ ?_
                               · exact jv 5
                               · exact ja_nil
                         · exact ja_nil
               · refine jss_one ?_
                 · refine js_ret ?_
                   · exact j_bl
               · exact jss_nil
 · refine jss_one ?_
   · refine js_ret ?_
     · exact j_bl
theorem wk_law_right {asp_law_take : ASp} {asp_law_pair : ASp} {asp_law_vary : ASp} {asp_law_greatest : ASp} {asp_law_same : ASp} {asp_law_apart : ASp} {asp_law_asked : ASp} {asp_law_event : ASp} {asp_law_is_set : ASp} {asp_law_refusals_right : ASp} (c_law_take : Cal P w K mg base "_law_take" s_law_take ["box", "many"] 1 asp_law_take) (c_law_pair : Cal P w K mg base "_law_pair" s_law_pair ["box", "size"] 4 asp_law_pair) (c_law_vary : Cal P w K mg base "_law_vary" s_law_vary ["one", "other"] 4 asp_law_vary) (c_law_greatest : Cal P w K mg base "_law_greatest" s_law_greatest ["one", "other"] 6 asp_law_greatest) (m_range : mg "range" = none) (c_law_same : Cal P w K mg base "_law_same" s_law_same ["told", "due"] 5 asp_law_same) (c_law_apart : Cal P w K mg base "_law_apart" s_law_apart ["one", "other"] 4 asp_law_apart) (c_law_asked : Cal P w K mg base "_law_asked" s_law_asked ["turn", "one", "other", "named"] 7 asp_law_asked) (c_law_event : Cal P w K mg base "_law_event" s_law_event ["one", "other", "members"] 5 asp_law_event) (c_law_is_set : Cal P w K mg base "_law_is_set" s_law_is_set ["size", "value"] 1 asp_law_is_set) (c_law_refusals_right : Cal P w K mg base "_law_refusals_right" s_law_refusals_right ["box", "one", "other"] 8 asp_law_refusals_right) : Walk P w K mg base ["box", "size", "one", "other", "far", "most", "turn", "left", "right", "named", "told"] "_law_right" s_law_right 8 (t_law_right asp_law_take asp_law_pair asp_law_vary asp_law_greatest asp_law_same asp_law_apart asp_law_asked asp_law_event asp_law_is_set asp_law_refusals_right) := by
 intro f cdv A outer s H E hr tk ps
 refine jss_cons ?_ ?_
 · refine js_set (i := 1) sc_law_right.nd (by rfl) (.inl (by rfl)) ?_
   · refine j_ix ix_seq rs_ix ?_ ?_ (fun _ _ => by rfl)
     · refine j_lst false ?_
       · refine ja_cons ?_ ?_
         · exact j_int
         · refine ja_cons ?_ ?_
           · exact j_int
           · refine ja_cons ?_ ?_
             · exact j_int
             · refine ja_cons ?_ ?_
               · exact j_int
               · refine ja_cons ?_ ?_
                 · exact j_int
                 · refine ja_cons ?_ ?_
                   · exact j_int
                   · refine ja_cons ?_ ?_
                     · exact j_int
                     · refine ja_cons ?_ ?_
                       · refine j_op op_addZ (rs_add false) ?_ ?_
                         · exact j_int
                         · refine j_call' tk c_law_take hr (by decide) (by rfl) ?_
                           · refine ja_cons ?_ ?_
                             · exact jv 0
                             · refine ja_cons ?_ ?_
                               · exact j_int
                               · exact ja_nil
                       · exact ja_nil
     · refine j_call' tk c_law_take hr (by decide) (by rfl) ?_
       · refine ja_cons ?_ ?_
         · exact jv 0
         · refine ja_cons ?_ ?_
           · exact j_int
           · exact ja_nil
 · refine jss_cons ?_ ?_
   · refine js_asg ?_ ?_
     · refine j_call' tk c_law_pair hr (by decide) (by rfl) ?_
       · refine ja_cons ?_ ?_
         · exact jv 0
         · refine ja_cons ?_ ?_
           · exact jv 1
           · exact ja_nil
     · refine jg_tup (by rfl) ?_
       · refine jgs_cons ?_ ?_
         · exact jg_name (i := 2) sc_law_right.nd (by rfl) (.inl (by rfl))
         · refine jgs_cons ?_ ?_
           · exact jg_name (i := 3) sc_law_right.nd (by rfl) (.inl (by rfl))
           · exact jgs_nil
   · refine jss_cons ?_ ?_
     · refine js_par (i := 4) (j := 5) (by rfl) sc_law_right.nd (by rfl) (by rfl) (by decide) (by rfl) (by rfl) ?_
       · refine ja_cons ?_ ?_
         · refine j_call' tk c_law_vary hr (by decide) (by rfl) ?_
           · refine ja_cons ?_ ?_
             · exact jv 2
             · refine ja_cons ?_ ?_
               · exact jv 3
               · exact ja_nil
         · refine ja_cons ?_ ?_
           · refine j_call' tk c_law_greatest hr (by decide) (by rfl) ?_
             · refine ja_cons ?_ ?_
               · exact jv 2
               · refine ja_cons ?_ ?_
                 · exact jv 3
                 · exact ja_nil
           · exact ja_nil
     · refine jss_cons ?_ ?_
       · refine js_if ?_ ?_ ?_
         · refine jt_cmp (op_neD (u64 hr)) rs_ne ?_ ?_ (by rfl)
           · exact jv 4
           · exact jv 5
         · refine jss_one ?_
           · refine js_ret ?_
             · exact j_bl
         · exact jss_nil
       · refine jss_cons ?_ ?_
         · refine js_for ps (by rfl) ?_ ?_ ?_
           · refine ji_range1 (by rfl) m_range ?_
             · refine ja_cons ?_ ?_
               · exact j_int
               · exact ja_nil
           · exact jg_name (i := 6) sc_law_right.nd (by rfl) (.inl (by rfl))
           · refine jss_cons ?_ ?_
             · refine js_asg ?_ ?_
               · refine j_ix ix_seq rs_ix ?_ ?_ (fun _ _ => by rfl)
                 · refine j_lst false ?_
                   · refine ja_cons ?_ ?_
                     · refine j_tup ?_
                       · refine ja_cons ?_ ?_
                         · exact jv 2
                         · refine ja_cons ?_ ?_
                           · exact jv 3
                           · exact ja_nil
                     · refine ja_cons ?_ ?_
                       · refine j_tup ?_
                         · refine ja_cons ?_ ?_
                           · exact jv 3
                           · refine ja_cons ?_ ?_
                             · exact jv 2
                             · exact ja_nil
                       · exact ja_nil
                 · exact jv 6
               · refine jg_tup (by rfl) ?_
                 · refine jgs_cons ?_ ?_
                   · exact jg_name (i := 7) sc_law_right.nd (by rfl) (.inl (by rfl))
                   · refine jgs_cons ?_ ?_
                     · exact jg_name (i := 8) sc_law_right.nd (by rfl) (.inl (by rfl))
                     · exact jgs_nil
             · refine jss_cons ?_ ?_
               · refine js_set (i := 9) sc_law_right.nd (by rfl) (.inl (by rfl)) ?_
                 · refine j_cmp (op_eqD (u64 hr)) rs_eq ?_ ?_ (by rfl)
                   · refine j_call' tk c_law_take hr (by decide) (by rfl) ?_
                     · refine ja_cons ?_ ?_
                       · exact jv 0
                       · refine ja_cons ?_ ?_
                         · exact j_int
                         · exact ja_nil
                   · exact j_int
               · refine jss_cons ?_ ?_
                 · refine js_if ?_ ?_ ?_
                   · refine jt_bool ?_
                     · refine jw_or ?_ ?_
                       · refine jt_not ?_
                         · refine jt ?_
                           · refine j_call' tk c_law_same hr (by decide) (by rfl) ?_
                             · refine ja_cons ?_ ?_
                               · refine j_call' tk c_law_asked hr (by decide) (by rfl) ?_
                                 · refine ja_cons ?_ ?_
                                   · exact j_int
                                   · refine ja_cons ?_ ?_
                                     · exact jv 7
                                     · refine ja_cons ?_ ?_
                                       · exact jv 8
                                       · refine ja_cons ?_ ?_
                                         · exact jv 9
                                         · exact ja_nil
                               · refine ja_cons ?_ ?_
                                 · exact jv 4
                                 · exact ja_nil
                       · refine jw_or1 ?_
                         · refine jt_not ?_
                           · refine jt ?_
                             · refine j_call' tk c_law_same hr (by decide) (by rfl) ?_
                               · refine ja_cons ?_ ?_
                                 · refine j_call' tk c_law_asked hr (by decide) (by rfl) ?_
                                   · refine ja_cons ?_ ?_
                                     · exact j_int
                                     · refine ja_cons ?_ ?_
                                       · exact jv 7
                                       · refine ja_cons ?_ ?_
                                         · exact jv 8
                                         · refine ja_cons ?_ ?_
                                           · refine j_not ?_
                                             · exact jv 9
                                           · exact ja_nil
                                 · refine ja_cons ?_ ?_
                                   · refine j_call' tk c_law_apart hr (by decide) (by rfl) ?_
                                     · refine ja_cons ?_ ?_
                                       · exact jv 7
                                       · refine ja_cons ?_ ?_
                                         · exact jv 8
                                         · exact ja_nil
                                   · exact ja_nil
                   · refine jss_one ?_
                     · refine js_ret ?_
                       · exact j_bl
                   · exact jss_nil
                 · refine jss_cons ?_ ?_
                   · refine js_set (i := 10) sc_law_right.nd (by rfl) (.inl (by rfl)) ?_
                     · refine j_call' tk c_law_asked hr (by decide) (by rfl) ?_
                       · refine ja_cons ?_ ?_
                         · exact j_int
                         · refine ja_cons ?_ ?_
                           · exact jv 7
                           · refine ja_cons ?_ ?_
                             · exact jv 8
                             · refine ja_cons ?_ ?_
                               · exact jv 9
                               · exact ja_nil
                   · refine jss_one ?_
                     · refine js_if ?_ ?_ ?_
                       · refine jt_bool ?_
                         · refine jw_or ?_ ?_
                           · refine jt_not ?_
                             · refine jt ?_
                               · refine j_call' tk c_law_is_set hr (by decide) (by rfl) ?_
                                 · refine ja_cons ?_ ?_
                                   · exact jv 1
                                   · refine ja_cons ?_ ?_
                                     · exact jv 10
                                     · exact ja_nil
                           · refine jw_or ?_ ?_
                             · refine jt_cmp (op_neD (u64 hr)) rs_ne ?_ ?_ (by rfl)
                               · refine j_call' tk c_law_event hr (by decide) (by rfl) ?_
                                 · refine ja_cons ?_ ?_
                                   · exact jv 7
                                   · refine ja_cons ?_ ?_
                                     · exact jv 8
                                     · refine ja_cons ?_ ?_
                                       · exact jv 10
                                       · exact ja_nil
                               · exact jv 4
                             · refine jw_or1 ?_
                               · refine jt_not ?_
                                 · refine jt ?_
                                   · refine j_call' tk c_law_same hr (by decide) (by rfl) ?_
                                     · refine ja_cons ?_ ?_
                                       · refine j_call' tk c_law_asked hr (by decide) (by rfl) ?_
                                         · refine ja_cons ?_ ?_
                                           · exact j_int
                                           · refine ja_cons ?_ ?_
                                             · exact jv 7
                                             · refine ja_cons ?_ ?_
                                               · exact jv 8
                                               · refine ja_cons ?_ ?_
                                                 · refine j_not ?_
                                                   · exact jv 9
                                                 · exact ja_nil
                                       · refine ja_cons ?_ ?_
                                         · exact jv 10
                                         · exact ja_nil
                       · refine jss_one ?_
                         · refine js_ret ?_
                           · exact j_bl
                       · exact jss_nil
         · refine jss_one ?_
           · refine js_ret ?_
             · refine j_call' tk c_law_refusals_right hr (by decide) (by rfl) ?_
               · refine ja_cons ?_ ?_
                 · exact jv 0
                 · refine ja_cons ?_ ?_
                   · exact jv 2
                   · refine ja_cons ?_ ?_
                     · exact jv 3
                     · exact ja_nil
theorem wk_law {asp_law_box : ASp} {asp_law_cell : ASp} {asp_law_right : ASp} (m_range : mg "range" = none) (c_law_box : Cal P w K mg base "_law_box" s_law_box ["great"] 1 asp_law_box) (c_law_cell : Cal P w K mg base "_law_cell" s_law_cell ["script", "k"] 1 asp_law_cell) (c_law_right : Cal P w K mg base "_law_right" s_law_right ["box"] 9 asp_law_right) : Walk P w K mg base ["script", "k", "box"] "law" s_law 9 (t_law asp_law_box asp_law_cell asp_law_right) := by
 intro f cdv A outer s H E hr tk ps
 refine jss_cons ?_ ?_
 · refine js_for ps (by rfl) ?_ ?_ ?_
   · refine ji_range1 (by rfl) m_range ?_
     · refine ja_cons ?_ ?_
       · exact j_int
       · exact ja_nil
   · exact jg_name (i := 1) sc_law.nd (by rfl) (.inl (by rfl))
   · refine jss_cons ?_ ?_
     · refine js_set (i := 2) sc_law.nd (by rfl) (.inl (by rfl)) ?_
       · refine j_call' tk c_law_box hr (by decide) (by rfl) ?_
         · refine ja_cons ?_ ?_
           · refine j_call' tk c_law_cell hr (by decide) (by rfl) ?_
             · refine ja_cons ?_ ?_
               · exact jv 0
               · refine ja_cons ?_ ?_
                 · exact jv 1
                 · exact ja_nil
           · exact ja_nil
     · refine jss_one ?_
       · refine js_if ?_ ?_ ?_
         · refine jt_bool ?_
           · refine jw_or ?_ ?_
             · refine jt_not ?_
               · refine jt ?_
                 · refine j_call' tk c_law_right hr (by decide) (by rfl) ?_
                   · refine ja_cons ?_ ?_
                     · exact jv 2
                     · exact ja_nil
             · refine jw_or1 ?_
               · refine jt_not ?_
                 · refine jt ?_
                   · refine j_call' tk c_law_right hr (by decide) (by rfl) ?_
                     · refine ja_cons ?_ ?_
                       · exact jv 2
                       · exact ja_nil
         · refine jss_one ?_
           · refine js_ret ?_
             · exact j_bl
         · exact jss_nil
 · refine jss_one ?_
   · refine js_ret ?_
     · exact j_bl
end
end K34
set_option Elab.async false
set_option linter.all false
set_option maxRecDepth 100000
set_option autoImplicit false
namespace K02
open PySem Ab K00
local macro_rules | `(tactic| walk_at "abq") => `(tactic| try simp [-Bool.exists_bool, -Bool.forall_bool, ↓exB, ↓iteB, aSeq, aAsg, aPar, aCB, aCons, aNil, aVar, aC, gName, aIfS, aTest, aNot, aAnd, aOr, aAndV, aOrV, aNotV, aIf, aOp, aUn, aRet, aTup, aLst, bodyK, Ab.start, List.replicate, aNext, aCall, aCallK, pick, aRaise, aRaise0, gSub, gTup, gNil, gCons, aExpr, aBM, aDk0, aLC, aSeqI, aSl, aPart, aNoPart, aRange1, aRange2, aFor, aYes, wipeD, Tg.put, eqA_int, eqA_bl, eqA_nil, ix_tup, ix_lst, ix_scr, ix_ref, at_0, at_1, at_2, at_3, add_int, add_tup, add_str, add_lst, add_refl, mul_int, sub_int, fdiv_int, mod_int, pow_int, lt_int, le_int, gt_int, ge_int, neg_int, abs_int, gcd_int, max2_int, min2_int, int_int, int_bl, str_int, is_non, is_bl, isNonD, isi_ty, in_int, in_bool, in_str, in_tuple, in_list, in_dict, isiB, ty_non, ty_bl, ty_int, ty_str, ty_tup, ty_lst, ty_dk, ty_scr, len_tup, len_lst, len_scr, len_ref, len_dk, len_str, sl_tup, sl_lst, sl_scr, new_f, new_t, set_ref, app_ref, ext_ref, ty_ref, src_tup, src_lst, src_scr, ix_q0, ix_q1, aZip, aZipS, aEnum, zip_tt, zip_ll, tup_l, tup_t, tup_r, ex2t, ex2, ex2n, ex3])
theorem q_zero : D.tup [.int 0, .int 1] = qD 0 := rfl
theorem q_one : D.tup [.int 1, .int 1] = qD 1 := rfl
def SumOk (l : List Rat) : Prop := l.length ≤ 9 ∧ ∃ d b : Nat, d ≠ 0 ∧ d < 2 ^ 1000 ∧ b < 2 ^ 1000 ∧ l.length * b < 2 ^ 1000 ∧ ∀ q ∈ l, Gr d b q
def asp_total : ASp := fun ds st QA _ => ∃ l : List Rat, ds = [.lst (l.map qD)] ∧ SumOk l ∧ QA (qD (sumQ l)) st
theorem p_total : ∀ ds st0 QA EA, ds.length = 1 → asp_total ds st0 QA EA → t_total asp_add (bodyK st0 QA EA) ⟨Ab.start 3 ds, st0⟩ := by
  intro ds st0 QA EA hl ⟨l, e, ⟨h9, d, b, d0, hd, hb, hs, hg⟩, q⟩
  subst e
  unfold t_total
  rw [q_zero]
  walk_at "abq"
  refine forL_ix (I := fun k S => ∃ w, S = ⟨[some (.lst (l.map qD)), some (qD (sumQ (l.take k))), w], st0⟩) (l.map qD) 0 (fun j e he K hK S hS => ?_) (fun S hS => ?_) _ ⟨_, rfl⟩
  · obtain ⟨w, hS⟩ := hS
    subst hS
    rw [List.getElem?_map] at he
    obtain ⟨x, hx, e⟩ := Option.map_eq_some_iff.mp he
    subst e
    rw [Nat.zero_add] at *
    have hj : j < l.length := (List.getElem?_eq_some_iff.mp hx).1
    have gx : Gr d b x := hg x (List.mem_of_getElem? hx)
    have gs : Gr d (l.length * b) (sumQ (l.take j)) := (Gr.sum d0 (l.take j) fun q hq => hg q (List.mem_of_mem_take hq)).mono (by rw [List.length_take]; exact Nat.mul_le_mul_right _ (by omega))
    walk_at "abq"
    rw [run_add (gs.sm hd hs) (gx.sm hd hb)]
    refine hK _ ⟨some (qD x), ?_⟩
    rw [List.take_succ, hx]
    show _ = _
    unfold sumQ
    simp
  · obtain ⟨w, hS⟩ := hS
    subst hS
    walk_at "abq"
    refine .inl ?_
    simpa using q
def DotOk (n : Nat) (f g : Nat → Rat) : Prop := n ≤ 9 ∧ ∃ d e b c : Nat, d ≠ 0 ∧ e ≠ 0 ∧ d < 2 ^ 1000 ∧ e < 2 ^ 1000 ∧ b < 2 ^ 1000 ∧ c < 2 ^ 1000 ∧ d * e < 2 ^ 1000 ∧ b * c < 2 ^ 1000 ∧ n * (b * c) < 2 ^ 1000 ∧ (∀ i, i < n → Gr d b (f i)) ∧ (∀ i, i < n → Gr e c (g i))
theorem DotOk.sum {n : Nat} {f g : Nat → Rat} (h : DotOk n f g) : SumOk ((List.range n).map fun t => f t * g t) := by
  obtain ⟨h9, d, e, b, c, d0, e0, hd, he, hb, hc, hde, hbc, hn, h1, h2⟩ := h
  refine ⟨by simpa using h9, d * e, b * c, Nat.mul_ne_zero d0 e0, hde, hbc, by simpa using hn, fun q hq => ?_⟩
  obtain ⟨t, ht, e⟩ := List.mem_map.mp hq
  subst e
  exact (h1 t (List.mem_range.mp ht)).mul (h2 t (List.mem_range.mp ht))
theorem DotOk.sm {n : Nat} {f g : Nat → Rat} (h : DotOk n f g) : ∀ i, i < n → SmQ 1000 (f i) ∧ SmQ 1000 (g i) := fun i hi => by
  obtain ⟨h9, d, e, b, c, d0, e0, hd, he, hb, hc, hde, hbc, hn, h1, h2⟩ := h
  exact ⟨(h1 i hi).sm hd hb, (h2 i hi).sm he hc⟩
def asp_dot : ASp := fun ds st QA _ => ∃ n f g, ds = [VD n f, VD n g] ∧ DotOk n f g ∧ QA (qD (dotF n f g)) st
theorem p_dot : ∀ ds st0 QA EA, ds.length = 2 → asp_dot ds st0 QA EA → t_dot asp_total asp_mul (bodyK st0 QA EA) ⟨Ab.start 4 ds, st0⟩ := by
  intro ds st0 QA EA hl ⟨n, f, g, e, ok, q⟩
  subst e
  unfold t_dot VD
  walk_at "abq"
  rw [zipD_map]
  refine compM_ok (g := fun i => qD (f i * g i)) _ [] (fun i hi => ?_) (by simpa using sz_le (Nat.le_trans ok.1 (by decide))) ?_
  · refine ⟨_, rfl, fun A hA => ?_⟩
    have := ok.sm i (List.mem_range.mp hi)
    walk_at "abq"
    rw [run_mul this.1 this.2]
    exact hA
  · refine ⟨(List.range n).map fun t => f t * g t, ?_, ok.sum, .inl q⟩
    simp
def asp_cols : ASp := fun ds st QA _ => ∃ n m f, ds = [MD n m f] ∧ 0 < n ∧ n ≤ 9 ∧ m ≤ 9 ∧ QA (.lst ((List.range m).map fun j => VD n fun i => f i j)) st
theorem cols_MD {n m : Nat} {f : Nat → Nat → Rat} : colsD ((List.range n).map fun i => (List.range m).map fun j => qD (f i j)) m = (List.range m).map fun j => VD n fun i => f i j := by
  unfold colsD VD
  refine List.map_congr_left fun j hj => ?_
  congr 1
  rw [List.map_map]
  refine List.map_congr_left fun i hi => ?_
  simp [List.mem_range.mp hj]
theorem p_columns_of : ∀ ds st0 QA EA, ds.length = 1 → asp_cols ds st0 QA EA → t_columns_of (bodyK st0 QA EA) ⟨Ab.start 2 ds, st0⟩ := by
  intro ds st0 QA EA hl ⟨n, m, f, e, h0, hn, hm, q⟩
  subst e
  unfold t_columns_of
  walk_at "abq"
  refine ⟨(List.range n).map fun i => (List.range m).map fun j => qD (f i j), .inl ?_, ?_, by simpa using hn, m, ?_, ?_⟩
  · unfold MD VD
    simp
  · simp; omega
  · intro r hr
    obtain ⟨i, hi, e⟩ := List.mem_map.mp hr
    subst e; simp
  · rw [cols_MD]
    refine compM_ok (g := fun j => VD n fun i => f i j) _ [] (fun i hi => ?_) (by simpa using sz_le (Nat.le_trans hm (by decide))) ?_
    · refine ⟨_, rfl, fun A hA => ?_⟩
      unfold VD at *
      walk_at "abq"
      exact hA
    · exact .inl (by simpa using q)
section
variable {st : Store} {Q : D → Store → Prop} {X : XD → Store → Prop} {n m k : Nat}
theorem run_dot {f g : Nat → Rat} (h : DotOk n f g) (q : Q (qD (dotF n f g)) st) : asp_dot [VD n f, VD n g] st Q X := ⟨n, f, g, rfl, h, q⟩
theorem run_cols {f : Nat → Nat → Rat} (h0 : 0 < n) (hn : n ≤ 9) (hm : m ≤ 9) (q : Q (.lst ((List.range m).map fun j => VD n fun i => f i j)) st) : asp_cols [MD n m f] st Q X := ⟨n, m, f, rfl, h0, hn, hm, q⟩
end
def asp_tm : ASp := fun ds st QA _ => ∃ n m f g, ds = [VD n f, MD n m g] ∧ 0 < n ∧ m ≤ 9 ∧ (∀ j, j < m → DotOk n f fun i => g i j) ∧ n ≤ 9 ∧ QA (VD m fun j => dotF n f fun i => g i j) st
theorem p_times_matrix : ∀ ds st0 QA EA, ds.length = 2 → asp_tm ds st0 QA EA → t_times_matrix asp_cols asp_dot (bodyK st0 QA EA) ⟨Ab.start 3 ds, st0⟩ := by
  intro ds st0 QA EA hl ⟨n, m, f, g, e, h0, hm, ok, hn, q⟩
  subst e
  unfold t_times_matrix
  walk_at "abq"
  refine run_cols h0 hn hm ?_
  walk_at "abq"
  refine compM_ok (g := fun j => qD (dotF n f fun i => g i j)) _ [] (fun j hj => ?_) (by simpa using sz_le (Nat.le_trans hm (by decide))) ?_
  · refine ⟨_, rfl, fun A hA => ?_⟩
    walk_at "abq"
    exact run_dot (ok j (List.mem_range.mp hj)) hA
  · exact .inl (by simpa [VD] using q)
def asp_mt : ASp := fun ds st QA _ => ∃ n m f g, ds = [MD n m f, VD m g] ∧ n ≤ 9 ∧ (∀ i, i < n → DotOk m (f i) g) ∧ QA (VD n fun i => dotF m (f i) g) st
theorem p_matrix_times : ∀ ds st0 QA EA, ds.length = 2 → asp_mt ds st0 QA EA → t_matrix_times asp_dot (bodyK st0 QA EA) ⟨Ab.start 3 ds, st0⟩ := by
  intro ds st0 QA EA hl ⟨n, m, f, g, e, hn, ok, q⟩
  subst e
  unfold t_matrix_times MD
  walk_at "abq"
  refine compM_ok (g := fun i => qD (dotF m (f i) g)) _ [] (fun j hj => ?_) (by simpa using sz_le (Nat.le_trans hn (by decide))) ?_
  · refine ⟨_, rfl, fun A hA => ?_⟩
    walk_at "abq"
    exact run_dot (ok j (List.mem_range.mp hj)) hA
  · exact .inl (by simpa [VD] using q)
def MulFits (n k m : Nat) (f g : Nat → Nat → Rat) : Prop := 0 < k ∧ k ≤ 9 ∧ n ≤ 9 ∧ m ≤ 9 ∧ ∀ i j, i < n → j < m → DotOk k (f i) fun t => g t j
def asp_product : ASp := fun ds st QA _ => ∃ n k m f g, ds = [MD n k f, MD k m g] ∧ MulFits n k m f g ∧ QA (MD n m (mulF k f g)) st
theorem p_product : ∀ ds st0 QA EA, ds.length = 2 → asp_product ds st0 QA EA → t_product asp_cols asp_dot (bodyK st0 QA EA) ⟨Ab.start 5 ds, st0⟩ := by
  intro ds st0 QA EA hl ⟨n, k, m, f, g, e, ⟨h0, hk, hn, hm, ok⟩, q⟩
  subst e
  unfold t_product
  walk_at "abq"
  refine run_cols h0 hk hm ?_
  rw [show MD n k f = .tup ((List.range n).map fun i => VD k (f i)) from rfl]
  walk_at "abq"
  refine compM_ok (g := fun i => VD m (mulF k f g i)) _ [] (fun i hi => ?_) (by simpa using sz_le (Nat.le_trans hn (by decide))) ?_
  · refine ⟨_, rfl, fun A hA => ?_⟩
    walk_at "abq"
    refine compM_ok (g := fun j => qD (mulF k f g i j)) _ [] (fun j hj => ?_) (by simpa using sz_le (Nat.le_trans hm (by decide))) ?_
    · refine ⟨_, rfl, fun A hA => ?_⟩
      walk_at "abq"
      exact run_dot (ok i j (List.mem_range.mp hi) (List.mem_range.mp hj)) hA
    · simpa [VD] using hA
  · exact .inl (by simpa [MD] using q)
theorem run_product {st : Store} {Q : D → Store → Prop} {X : XD → Store → Prop} {n k m : Nat} {f g : Nat → Nat → Rat} (h : MulFits n k m f g) (q : Q (MD n m (mulF k f g)) st) : asp_product [MD n k f, MD k m g] st Q X := ⟨n, k, m, f, g, rfl, h, q⟩
end K02
set_option Elab.async false
set_option linter.all false
set_option maxRecDepth 100000
set_option autoImplicit false
namespace K02
open PySem Ab K00
local macro_rules | `(tactic| walk_at "abq") => `(tactic| try simp [-Bool.exists_bool, -Bool.forall_bool, ↓exB, ↓iteB, aSeq, aAsg, aPar, aCB, aCons, aNil, aVar, aC, gName, aIfS, aTest, aNot, aAnd, aOr, aAndV, aOrV, aNotV, aIf, aOp, aUn, aRet, aTup, aLst, bodyK, Ab.start, List.replicate, aNext, aCall, aCallK, pick, aRaise, aRaise0, gSub, gTup, gNil, gCons, aExpr, aBM, aDk0, aLC, aSeqI, aSl, aPart, aNoPart, aRange1, aRange2, aFor, aYes, wipeD, Tg.put, eqA_int, eqA_bl, eqA_nil, ix_tup, ix_lst, ix_scr, ix_ref, at_0, at_1, at_2, at_3, add_int, add_tup, add_str, add_lst, add_refl, mul_int, sub_int, fdiv_int, mod_int, pow_int, lt_int, le_int, gt_int, ge_int, neg_int, abs_int, gcd_int, max2_int, min2_int, int_int, int_bl, str_int, is_non, is_bl, isNonD, isi_ty, in_int, in_bool, in_str, in_tuple, in_list, in_dict, isiB, ty_non, ty_bl, ty_int, ty_str, ty_tup, ty_lst, ty_dk, ty_scr, len_tup, len_lst, len_scr, len_ref, len_dk, len_str, sl_tup, sl_lst, sl_scr, new_f, new_t, set_ref, app_ref, ext_ref, ty_ref, src_tup, src_lst, src_scr, ix_q0, ix_q1, aZip, aZipS, aEnum, zip_tt, zip_ll, tup_l, tup_t, tup_r, ex2t, ex2, ex2n, ex3])
def asp_unit : ASp := fun ds st QA _ => ∃ n : Nat, ds = [.int n] ∧ n ≤ 9 ∧ QA (MD n n unitF) st
theorem p_unit : ∀ ds st0 QA EA, ds.length = 1 → asp_unit ds st0 QA EA → t_unit (bodyK st0 QA EA) ⟨Ab.start 3 ds, st0⟩ := by
  intro ds st0 QA EA hl ⟨n, e, hn, q⟩
  subst e
  have rgn : L2.RgOk 0 (n : Int) := by unfold L2.RgOk; omega
  have e0 : rgD 0 n = (List.range n).map fun i => .int (i : Int) := by unfold rgD; simp
  unfold t_unit
  rw [q_zero, q_one]
  walk_at "abq"
  refine ⟨by omega, ?_⟩
  rw [e0]
  refine compM_ok (g := fun i => VD n (unitF i)) _ [] (fun i hi => ?_) (by simpa using sz_le (Nat.le_trans hn (by decide))) ?_
  · refine ⟨_, rfl, fun A hA => ?_⟩
    walk_at "abq"
    refine ⟨by omega, ?_⟩
    rw [e0]
    refine compM_ok (g := fun j => qD (unitF i j)) _ [] (fun j hj => ?_) (by simpa using sz_le (Nat.le_trans hn (by decide))) ?_
    · refine ⟨_, rfl, fun A hA => ?_⟩
      unfold unitF at hA
      walk_at "abq"
      refine ⟨fun h => ?_, fun h => ?_⟩
      · rw [if_pos (by omega)] at hA; exact hA
      · rw [if_neg (by omega)] at hA; exact hA
    · simpa [VD] using hA
  · exact .inl (by simpa [MD] using q)
theorem run_unit {st : Store} {Q : D → Store → Prop} {X : XD → Store → Prop} {n : Nat} (h : n ≤ 9) (q : Q (MD n n unitF) st) : asp_unit [.int n] st Q X := ⟨n, rfl, h, q⟩
/-- powers of f up to m fit -/
def PowFits (k : Nat) (f : Nat → Nat → Rat) (m : Nat) : Prop := 0 < k ∧ k ≤ 9 ∧ ∀ a b, a + b ≤ m → MulFits k k k (powF k f a) (powF k f b)
theorem powF_one {k : Nat} {f : Nat → Nat → Rat} {i j : Nat} (hi : i < k) : powF k f 1 i j = f i j := mulF_unit_l hi
def asp_power : ASp := fun ds st QA _ => ∃ k f, ∃ m : Nat, ds = [MD k k f, .int m] ∧ m ≤ 100 ∧ PowFits k f m ∧ QA (MD k k (powF k f m)) st
theorem p_power : ∀ ds st0 QA EA, ds.length = 2 → asp_power ds st0 QA EA → t_power asp_unit asp_product (bodyK st0 QA EA) ⟨Ab.start 4 ds, st0⟩ := by
  intro ds st0 QA EA hl ⟨k, f, m, e, hm, ⟨k0, k9, fits⟩, q⟩
  subst e
  have e0 : rgD 0 m = (List.range m).map fun i => .int (i : Int) := by unfold rgD; simp
  have el : ∀ (Q : D → Store → Prop), Q (.int k) st0 → lenA [MD k k f] st0 Q := fun Q h => by unfold MD; rw [len_tup]; simpa using h
  unfold t_power
  walk_at "abq"
  refine el _ ?_
  refine run_unit k9 ?_
  walk_at "abq"
  refine ⟨by omega, ?_⟩
  refine forL_ix (I := fun a S => ∃ w, S = ⟨[some (MD k k f), some (.int m), some (MD k k (powF k f a)), w], st0⟩) _ 0 (fun j e he K hK S hS => ?_) (fun S hS => ?_) _ ⟨none, rfl⟩
  · obtain ⟨w, hS⟩ := hS
    subst hS
    rw [Nat.zero_add] at *
    have hj : j < m := by
      have := (List.getElem?_eq_some_iff.mp he).1
      rwa [rg_len] at this
    have ft := fits j 1 (by omega)
    have ft2 : MulFits k k k (powF k f j) f := by
      refine ⟨ft.1, ft.2.1, ft.2.2.1, ft.2.2.2.1, fun i l hi hl => ?_⟩
      obtain ⟨h9, d, e, b, c, d0, e0, hd, he, hb, hc, hde, hbc, hn, h1, h2⟩ := ft.2.2.2.2 i l hi hl
      exact ⟨h9, d, e, b, c, d0, e0, hd, he, hb, hc, hde, hbc, hn, h1, fun t ht => by have z : Gr e c (powF k f 1 t l) := h2 t ht; rw [powF_one ht] at z; exact z⟩
    walk_at "abq"
    exact run_product ft2 (hK _ ⟨_, rfl⟩)
  · obtain ⟨w, hS⟩ := hS
    subst hS
    rw [rg_len, Nat.zero_add]
    walk_at "abq"
    exact .inl q
end K02
set_option Elab.async false
set_option linter.all false
set_option maxRecDepth 100000
set_option autoImplicit false
namespace K02
open PySem Ab K00
local macro_rules | `(tactic| walk_at "abq") => `(tactic| try simp [-Bool.exists_bool, -Bool.forall_bool, ↓exB, ↓iteB, aSeq, aAsg, aPar, aCB, aCons, aNil, aVar, aC, gName, aIfS, aTest, aNot, aAnd, aOr, aAndV, aOrV, aNotV, aIf, aOp, aUn, aRet, aTup, aLst, bodyK, Ab.start, List.replicate, aNext, aCall, aCallK, pick, aRaise, aRaise0, gSub, gTup, gNil, gCons, aExpr, aBM, aDk0, aLC, aSeqI, aSl, aPart, aNoPart, aRange1, aRange2, aFor, aYes, wipeD, Tg.put, eqA_int, eqA_bl, eqA_nil, ix_tup, ix_lst, ix_scr, ix_ref, at_0, at_1, at_2, at_3, add_int, add_tup, add_str, add_lst, add_refl, mul_int, sub_int, fdiv_int, mod_int, pow_int, lt_int, le_int, gt_int, ge_int, neg_int, abs_int, gcd_int, max2_int, min2_int, int_int, int_bl, str_int, is_non, is_bl, isNonD, isi_ty, in_int, in_bool, in_str, in_tuple, in_list, in_dict, isiB, ty_non, ty_bl, ty_int, ty_str, ty_tup, ty_lst, ty_dk, ty_scr, len_tup, len_lst, len_scr, len_ref, len_dk, len_str, sl_tup, sl_lst, sl_scr, new_f, new_t, set_ref, app_ref, ext_ref, ty_ref, src_tup, src_lst, src_scr, ix_q0, ix_q1, aZip, aZipS, aEnum, zip_tt, zip_ll, tup_l, tup_t, tup_r, ex2t, ex2, ex2n, ex3])
theorem p_law_sum : ∀ ds st0 QA EA, ds.length = 1 → asp_total ds st0 QA EA → t_law_sum asp_add (bodyK st0 QA EA) ⟨Ab.start 3 ds, st0⟩ := by
  intro ds st0 QA EA hl ⟨l, e, ⟨h9, d, b, d0, hd, hb, hs, hg⟩, q⟩
  subst e
  unfold t_law_sum
  walk_at "abq"
  rw [q_zero]
  refine ⟨sz2, ?_⟩
  refine forL_ix (I := fun k S => ∃ w, S = ⟨[some (.lst (l.map qD)), some (qD (sumQ (l.take k))), w], st0⟩) (l.map qD) 0 (fun j e he K hK S hS => ?_) (fun S hS => ?_) _ ⟨_, rfl⟩
  · obtain ⟨w, hS⟩ := hS
    subst hS
    rw [List.getElem?_map] at he
    obtain ⟨x, hx, e⟩ := Option.map_eq_some_iff.mp he
    subst e
    rw [Nat.zero_add] at *
    have hj : j < l.length := (List.getElem?_eq_some_iff.mp hx).1
    have gx : Gr d b x := hg x (List.mem_of_getElem? hx)
    have gs : Gr d (l.length * b) (sumQ (l.take j)) := (Gr.sum d0 (l.take j) fun q hq => hg q (List.mem_of_mem_take hq)).mono (by rw [List.length_take]; exact Nat.mul_le_mul_right _ (by omega))
    walk_at "abq"
    rw [run_add (gs.sm hd hs) (gx.sm hd hb)]
    refine hK _ ⟨some (qD x), ?_⟩
    rw [List.take_succ, hx]
    show _ = _
    unfold sumQ
    simp
  · obtain ⟨w, hS⟩ := hS
    subst hS
    walk_at "abq"
    refine .inl ?_
    simpa using q

theorem run_sum {st : Store} {Q : D → Store → Prop} {X : XD → Store → Prop} {l : List Rat} (h : SumOk l) (q : Q (qD (sumQ l)) st) : asp_total [.lst (l.map qD)] st Q X := ⟨l, rfl, h, q⟩
/-- a row: a tuple or a list -/
def RowD (n : Nat) (f : Nat → Rat) (d : D) : Prop := d = VD n f ∨ d = VL n f
theorem at_row {n : Nat} {f : Nat → Rat} {i : Nat} (h : i < n) : L2.atI ((List.range n).map fun i => qD (f i)) (i : Int) = some (qD (f i)) := by
  rw [at_nat, List.getElem?_map, List.getElem?_range h]; rfl
theorem ix_row {n : Nat} {f : Nat → Rat} {i : Nat} {d : D} {st : Store} {Q : D → Store → Prop} (r : RowD n f d) (h : i < n) (q : Q (qD (f i)) st) : ixA d (.int i) st Q := by
  rcases r with e | e
  · subst e; unfold VD; rw [ix_tup]; exact ⟨_, at_row h, q⟩
  · subst e; unfold VL; rw [ix_lst]; exact ⟨_, at_row h, q⟩
theorem len_row {n : Nat} {f : Nat → Rat} {d : D} {st : Store} {Q : D → Store → Prop} (r : RowD n f d) (q : Q (.int n) st) : lenA [d] st Q := by
  rcases r with e | e
  · subst e; unfold VD; rw [len_tup]; simpa using q
  · subst e; unfold VL; rw [len_lst]; simpa using q
theorem rg_nat {n : Nat} : rgD 0 n = (List.range n).map fun i => .int (i : Int) := by unfold rgD; simp
def asp_ldot : ASp := fun ds st QA _ => ∃ n f g a b, ds = [a, b] ∧ RowD n f a ∧ RowD n g b ∧ DotOk n f g ∧ QA (qD (dotF n f g)) st
theorem p_law_dot : ∀ ds st0 QA EA, ds.length = 2 → asp_ldot ds st0 QA EA → t_law_dot asp_total asp_mul (bodyK st0 QA EA) ⟨Ab.start 3 ds, st0⟩ := by
  intro ds st0 QA EA hl ⟨n, f, g, a, b, e, ra, rb, ok, q⟩
  subst e
  have h9 := ok.1
  unfold t_law_dot
  walk_at "abq"
  refine len_row ra ?_
  walk_at "abq"
  refine ⟨by omega, ?_⟩
  rw [rg_nat]
  refine compM_ok (g := fun i => qD (f i * g i)) _ [] (fun i hi => ?_) (by simpa using sz_le (Nat.le_trans h9 (by decide))) ?_
  · refine ⟨_, rfl, fun A hA => ?_⟩
    have hi := List.mem_range.mp hi
    have := ok.sm i hi
    walk_at "abq"
    refine ix_row ra hi ?_
    refine ix_row rb hi ?_
    walk_at "abq"
    rw [run_mul this.1 this.2]
    exact hA
  · refine ⟨(List.range n).map fun t => f t * g t, ?_, ok.sum, .inl q⟩
    simp
theorem run_ldot {st : Store} {Q : D → Store → Prop} {X : XD → Store → Prop} {n : Nat} {f g : Nat → Rat} {a b : D} (ra : RowD n f a) (rb : RowD n g b) (h : DotOk n f g) (q : Q (qD (dotF n f g)) st) : asp_ldot [a, b] st Q X := ⟨n, f, g, a, b, rfl, ra, rb, h, q⟩
theorem p_law_unit : ∀ ds st0 QA EA, ds.length = 1 → asp_unit ds st0 QA EA → t_law_unit (bodyK st0 QA EA) ⟨Ab.start 3 ds, st0⟩ := by
  intro ds st0 QA EA hl ⟨n, e, hn, q⟩
  subst e
  unfold t_law_unit
  walk_at "abq"
  refine ⟨by omega, ?_⟩
  rw [rg_nat]
  refine compM_ok (g := fun i => VD n (unitF i)) _ [] (fun i hi => ?_) (by simpa using sz_le (Nat.le_trans hn (by decide))) ?_
  · refine ⟨_, rfl, fun A hA => ?_⟩
    walk_at "abq"
    refine ⟨by omega, ?_⟩
    rw [rg_nat]
    refine compM_ok (g := fun j => qD (unitF i j)) _ [] (fun j hj => ?_) (by simpa using sz_le (Nat.le_trans hn (by decide))) ?_
    · refine ⟨_, rfl, fun A hA => ?_⟩
      unfold unitF at hA
      walk_at "abq"
      refine ⟨sz2, ?_⟩
      by_cases h : i = j
      · subst h
        rw [if_pos rfl] at hA
        simpa [← q_one] using hA
      · rw [if_neg h] at hA
        have h2 : ¬ ((i : Int) = j) := by omega
        simpa [h, h2, ← q_zero] using hA
    · simpa [VD] using hA
  · exact .inl (by simpa [MD] using q)
theorem p_law_times : ∀ ds st0 QA EA, ds.length = 2 → asp_product ds st0 QA EA → t_law_times asp_ldot (bodyK st0 QA EA) ⟨Ab.start 6 ds, st0⟩ := by
  intro ds st0 QA EA hl ⟨n, k, m, f, g, e, ⟨h0, hk, hn, hm, ok⟩, q⟩
  subst e
  have i0 : ∀ (Q : D → Store → Prop), Q (VD m (g 0)) st0 → ixA (MD k m g) (.int 0) st0 Q := fun Q h => by
    unfold MD; rw [ix_tup]
    refine ⟨VD m (g 0), ?_, h⟩
    rw [show (0 : Int) = ((0 : Nat) : Int) from rfl, at_nat, List.getElem?_map, List.getElem?_range h0]; rfl
  unfold t_law_times
  walk_at "abq"
  refine i0 _ ?_
  walk_at "abq"
  refine len_row (.inl rfl) ?_
  walk_at "abq"
  refine ⟨by omega, ?_⟩
  rw [rg_nat]
  refine compM_ok (g := fun j => VL k fun t => g t j) _ [] (fun j hj => ?_) (by simpa using sz_le (Nat.le_trans hm (by decide))) ?_
  · refine ⟨_, rfl, fun A hA => ?_⟩
    rw [show MD k m g = .tup ((List.range k).map fun i => VD m (g i)) from rfl]
    walk_at "abq"
    refine compM_ok (g := fun t => qD (g t j)) _ [] (fun t ht => ?_) (by simpa using sz_le (Nat.le_trans hk (by decide))) ?_
    · refine ⟨_, rfl, fun A hA => ?_⟩
      walk_at "abq"
      exact ix_row (.inl rfl) (List.mem_range.mp hj) hA
    · simpa [VL] using hA
  · rw [show MD n k f = .tup ((List.range n).map fun i => VD k (f i)) from rfl]
    walk_at "abq"
    refine compM_ok (g := fun i => VD m (mulF k f g i)) _ [] (fun i hi => ?_) (by simpa using sz_le (Nat.le_trans hn (by decide))) ?_
    · refine ⟨_, rfl, fun A hA => ?_⟩
      walk_at "abq"
      refine compM_ok (g := fun j => qD (mulF k f g i j)) _ [] (fun j hj => ?_) (by simpa using sz_le (Nat.le_trans hm (by decide))) ?_
      · refine ⟨_, rfl, fun A hA => ?_⟩
        walk_at "abq"
        exact run_ldot (.inl rfl) (.inr rfl) (ok i j (List.mem_range.mp hi) (List.mem_range.mp hj)) hA
      · simpa [VD] using hA
    · exact .inl (by simpa [MD] using q)
end K02
set_option Elab.async false
set_option linter.all false
set_option maxRecDepth 100000
set_option autoImplicit false
namespace K02
open PySem Ab K00
local macro_rules | `(tactic| walk_at "abq") => `(tactic| try simp [-Bool.exists_bool, -Bool.forall_bool, ↓exB, ↓iteB, aSeq, aAsg, aPar, aCB, aCons, aNil, aVar, aC, gName, aIfS, aTest, aNot, aAnd, aOr, aAndV, aOrV, aNotV, aIf, aOp, aUn, aRet, aTup, aLst, bodyK, Ab.start, List.replicate, aNext, aCall, aCallK, pick, aRaise, aRaise0, gSub, gTup, gNil, gCons, aExpr, aBM, aDk0, aLC, aSeqI, aSl, aPart, aNoPart, aRange1, aRange2, aFor, aYes, aPar3, wipeD, Tg.put, eqA_int, eqA_bl, eqA_nil, ix_tup, ix_lst, ix_scr, ix_ref, at_0, at_1, at_2, at_3, add_int, add_tup, add_str, add_lst, add_refl, mul_int, sub_int, fdiv_int, mod_int, pow_int, lt_int, le_int, gt_int, ge_int, neg_int, abs_int, gcd_int, max2_int, min2_int, int_int, int_bl, str_int, is_non, is_bl, isNonD, isi_ty, in_int, in_bool, in_str, in_tuple, in_list, in_dict, isiB, ty_non, ty_bl, ty_int, ty_str, ty_tup, ty_lst, ty_dk, ty_scr, len_tup, len_lst, len_scr, len_ref, len_dk, len_str, sl_tup, sl_lst, sl_scr, new_f, new_t, set_ref, app_ref, ext_ref, ty_ref, src_tup, src_lst, src_scr, ix_q0, ix_q1, aZip, aZipS, aEnum, zip_tt, zip_ll, tup_l, tup_t, tup_r, ex2t, ex2, ex2n, ex3])
theorem MD_add {k : Nat} {f : Nat → Nat → Rat} {a b : Nat} : MD k k (mulF k (powF k f a) (powF k f b)) = MD k k (powF k f (a + b)) := MD_congr fun i j hi hj => powF_add a b i j hi hj
theorem MD_one {k : Nat} {f : Nat → Nat → Rat} : MD k k f = MD k k (powF k f 1) := MD_congr fun i j hi hj => (powF_one hi).symm
abbrev pwT : AB := aTest (aOp gtA (aVar 4) (aC (.int 0)))
abbrev pwB : AT := aSeq (aIfS (aTest (aOp (eqA false) (aOp modA (aCB intA (aCons (aVar 4) aNil)) (aC (.int 2))) (aC (.int 1)))) (aAsg (aCall 2 asp_product (aCons (aVar 2) (aCons (aVar 3) aNil))) (gName 2)) aNext)
 (aSeq (aAsg (aOp fdivA (aVar 4) (aC (.int 2))) (gName 4))
 (aIfS (aTest (aOp gtA (aVar 4) (aC (.int 0)))) (aAsg (aCall 2 asp_product (aCons (aVar 3) (aCons (aVar 3) aNil))) (gName 3)) aNext))
theorem wh_pow {k : Nat} {f : Nat → Nat → Rat} {m : Nat} {st : Store} {x y : D} (fits : PowFits k f m) (E : AK) (h : ∀ b, E.nx ⟨[some x, some y, some (MD k k (powF k f m)), some b, some (.int 0)], st⟩) : ∀ (n a c r : Nat) (b : D), r ≤ n → a + c * r = m → (0 < r → b = MD k k (powF k f c)) →
    whA pwT pwB E (n + 1) ⟨[some x, some y, some (MD k k (powF k f a)), some b, some (.int r)], st⟩
  | n, a, c, 0, b, hr, he, hb => by
    have : a = m := by simpa using he
    subst this
    rw [whA]
    walk_at "abq"
    exact h b
  | n + 1, a, c, r + 1, b, hr, he, hb => by
    have hb := hb (by omega)
    subst hb
    have e2 : ((r + 1 : Nat) : Int).fdiv 2 = (((r + 1) / 2 : Nat) : Int) := by rw [Int.fdiv_eq_ediv_of_nonneg _ (by omega)]; omega
    have e3 : ((r + 1 : Nat) : Int).fmod 2 = (((r + 1) % 2 : Nat) : Int) := by rw [Int.fmod_eq_emod_of_nonneg _ (by omega)]; omega
    have dv : ∀ i : Int, DivOk i 2 := fun i => divOk (by omega) (by unfold Sm; decide)
    have ac : a + c ≤ m := by
      have : c * 1 ≤ c * (r + 1) := Nat.mul_le_mul_left c (by omega)
      omega
    have tl : ∀ a', a' + (c + c) * ((r + 1) / 2) = m → 
        (0 < (((r + 1) / 2 : Nat) : Int) → asp_product [MD k k (powF k f c), MD k k (powF k f c)] st (fun d st => whA pwT pwB E (n + 1) ⟨[some x, some y, some (MD k k (powF k f a')), some d, some (.int (((r + 1) / 2 : Nat) : Int))], st⟩) fun x_1 st => E.xe x_1 ⟨[some x, some y, some (MD k k (powF k f a')), some (MD k k (powF k f c)), some (.int (((r + 1) / 2 : Nat) : Int))], st⟩) ∧
        ((((r + 1) / 2 : Nat) : Int) ≤ 0 → whA pwT pwB E (n + 1) ⟨[some x, some y, some (MD k k (powF k f a')), some (MD k k (powF k f c)), some (.int (((r + 1) / 2 : Nat) : Int))], st⟩) := fun a' ha' => by
      refine ⟨fun h0 => ?_, fun h0 => ?_⟩
      · have h1 : 1 ≤ (r + 1) / 2 := by omega
        have : (c + c) * 1 ≤ (c + c) * ((r + 1) / 2) := Nat.mul_le_mul_left _ h1
        refine run_product (fits.2.2 c c (by omega)) ?_
        exact wh_pow fits E h n a' (c + c) _ _ (by omega) ha' fun _ => MD_add
      · exact wh_pow fits E h n a' (c + c) _ _ (by omega) ha' fun h1 => by omega
    have hh : 2 * ((r + 1) / 2) + (r + 1) % 2 = r + 1 := by omega
    rw [whA]
    unfold pwT pwB at *
    walk_at "abq"
    rw [show ((r : Int) + 1) = ((r + 1 : Nat) : Int) by omega, e2, e3]
    have key : ∀ q z : Nat, 2 * q + z = r + 1 → z = 1 → a + c + (c + c) * q = m := fun q z h1 h2 => by
      subst h2
      rw [← he, ← h1]
      rw [Nat.add_mul, ← Nat.mul_add c (2 * q) 1 |>.symm]
      grind
    have key0 : ∀ q z : Nat, 2 * q + z = r + 1 → z = 0 → a + (c + c) * q = m := fun q z h1 h2 => by
      subst h2
      rw [← he, ← h1]
      grind
    refine ⟨fun h1 => run_product (fits.2.2 a c ac) ⟨dv _, ?_⟩, fun h1 => ⟨dv _, ?_⟩⟩
    · rw [MD_add]
      exact tl (a + c) (key _ _ hh (by omega))
    · exact tl a (key0 _ _ hh (by omega))
theorem p_law_power : ∀ ds st0 QA EA, ds.length = 2 → asp_power ds st0 QA EA → t_law_power asp_unit asp_product (bodyK st0 QA EA) ⟨Ab.start 5 ds, st0⟩ := by
  intro ds st0 QA EA hl ⟨k, f, m, e, hm, fits, q⟩
  subst e
  have el : ∀ (Q : D → Store → Prop), Q (.int k) st0 → lenA [MD k k f] st0 Q := fun Q h => by unfold MD; rw [len_tup]; simpa using h
  unfold t_law_power
  walk_at "abq"
  refine el _ ?_
  refine run_unit fits.2.1 ?_
  walk_at "abq"
  refine ⟨m + 1, wh_pow fits _ (fun b => ?_) m 0 1 m _ (Nat.le_refl _) (by omega) (fun _ => MD_one)⟩
  walk_at "abq"
  exact .inl q
end K02
set_option Elab.async false
set_option linter.all false
set_option maxRecDepth 100000
set_option autoImplicit false
namespace K02
open PySem Ab K00
local macro_rules | `(tactic| walk_at "abq") => `(tactic| try simp [-Bool.exists_bool, -Bool.forall_bool, ↓exB, ↓iteB, aSeq, aAsg, aPar, aCB, aCons, aNil, aVar, aC, gName, aIfS, aTest, aNot, aAnd, aOr, aAndV, aOrV, aNotV, aIf, aOp, aUn, aRet, aTup, aLst, bodyK, Ab.start, List.replicate, aNext, aCall, aCallK, pick, aRaise, aRaise0, gSub, gTup, gNil, gCons, aExpr, aBM, aDk0, aLC, aSeqI, aSl, aPart, aNoPart, aRange1, aRange2, aFor, aYes, aPar3, wipeD, Tg.put, eqA_int, eqA_bl, eqA_nil, ix_tup, ix_lst, ix_scr, ix_ref, at_0, at_1, at_2, at_3, add_int, add_tup, add_str, add_lst, add_refl, mul_int, sub_int, fdiv_int, mod_int, pow_int, lt_int, le_int, gt_int, ge_int, neg_int, abs_int, gcd_int, max2_int, min2_int, int_int, int_bl, str_int, is_non, is_bl, isNonD, isi_ty, in_int, in_bool, in_str, in_tuple, in_list, in_dict, isiB, ty_non, ty_bl, ty_int, ty_str, ty_tup, ty_lst, ty_dk, ty_scr, len_tup, len_lst, len_scr, len_ref, len_dk, len_str, sl_tup, sl_lst, sl_scr, new_f, new_t, set_ref, app_ref, ext_ref, ty_ref, src_tup, src_lst, src_scr, ix_q0, ix_q1, aZip, aZipS, aEnum, zip_tt, zip_ll, tup_l, tup_t, tup_r, ex2t, ex2, ex2n, ex3, aLRg1, sum_ref, mul_lst, pop_ref, enum_ref, src_ref])
local macro_rules | `(tactic| walk_at "abw") => `(tactic| try simp [-Bool.exists_bool, -Bool.forall_bool, ↓exB, ↓iteB, aSeq, aAsg, aPar, aCB, aCons, aNil, aVar, aC, gName, aIfS, aTest, aNot, aAnd, aOr, aAndV, aOrV, aNotV, aIf, aOp, aUn, aRet, aTup, aLst, bodyK, Ab.start, List.replicate, aNext, aCall, aCallK, pick, aRaise, aRaise0, gSub, gTup, gNil, gCons, aExpr, aBM, aDk0, aLC, aSeqI, aSl, aPart, aNoPart, aRange1, aRange2, aFor, aYes, aPar3, wipeD, Tg.put, eqA_int, eqA_bl, eqA_nil, ix_tup, ix_lst, ix_scr, at_0, at_1, at_2, at_3, add_int, add_tup, add_str, add_lst, add_refl, mul_int, sub_int, fdiv_int, mod_int, pow_int, lt_int, le_int, gt_int, ge_int, neg_int, abs_int, gcd_int, max2_int, min2_int, int_int, int_bl, str_int, is_non, is_bl, isNonD, isi_ty, in_int, in_bool, in_str, in_tuple, in_list, in_dict, isiB, ty_non, ty_bl, ty_int, ty_str, ty_tup, ty_lst, ty_dk, ty_scr, len_tup, len_lst, len_scr, len_dk, len_str, sl_tup, sl_lst, sl_scr, new_f, new_t, app_ref, ext_ref, ty_ref, src_tup, src_lst, src_scr, ix_q0, ix_q1, aZip, aZipS, aEnum, zip_tt, zip_ll, tup_l, tup_t, tup_r, ex2t, ex2, ex2n, ex3, aLRg1, mul_lst, pop_ref])
/-! ### the drawing rows -/
theorem _root_.K00.BoxAt.app {st : Store} {n : Nat} {N : Int} (h : BoxAt st n N) (X : Store) : BoxAt (st ++ X) n N := by
  have hn := h.lt
  obtain ⟨a, b, c, d, e, h⟩ := h
  exact ⟨a, b, c, d, by rw [List.getElem?_append_left hn]; exact e, h⟩
theorem _root_.K00.BoxTo.app {st st' X : Store} {n : Nat} {N : Int} (hn : n < st.length) (h : BoxTo (st ++ X) n N st') : ∃ st1, st' = st1 ++ X ∧ BoxTo st n N st1 := by
  obtain ⟨a, b, c, d, e, h⟩ := h
  exact ⟨st.set n (bx a b c d), by rw [e, List.set_append_left _ _ hn], a, b, c, d, rfl, h⟩
theorem _root_.K00.BoxAt.refl {st : Store} {n : Nat} {N : Int} (h : BoxAt st n N) : BoxTo st n N st := by
  obtain ⟨a, b, c, d, e, h⟩ := h
  refine ⟨a, b, c, d, ?_, h⟩
  apply List.ext_getElem?
  intro i
  rw [List.getElem?_set]
  split
  · rename_i hi
    subst hi
    rw [if_pos (List.getElem?_eq_some_iff.mp e).1, e]
  · rfl
section
variable {st0 st1 Y : Store} {Q : D → Store → Prop} {X : XD → Store → Prop} {n : Nat} {N m : Int}
theorem run_takeC (hn : n < st0.length) (b : BoxTo st0 n N st1) (hN : N ≤ 2 ^ 40) (h0 : 0 < m) (h1 : m < 2 ^ 40) (q : ∀ r st2, 0 ≤ r → r < m → BoxTo st0 n (N + 1) st2 → Q (.int r) st2) : asp_take [.ref n, .int m] st1 Q X :=
  ⟨n, m, N, rfl, b.at hn, hN, h0, h1, fun r st2 r0 r1 b2 => q r st2 r0 r1 (b.trans b2)⟩
theorem run_takeB (hn : n < st0.length) (b : BoxTo st0 n N st1) (hN : N ≤ 2 ^ 40) (h0 : 0 < m) (h1 : m < 2 ^ 40) (q : ∀ r st2, 0 ≤ r → r < m → BoxTo st0 n (N + 1) st2 → Q (.int r) (st2 ++ Y)) : asp_take [.ref n, .int m] (st1 ++ Y) Q X :=
  ⟨n, m, N, rfl, (b.at hn).app Y, hN, h0, h1, fun r st2 r0 r1 b2 => by
    obtain ⟨st3, e, b3⟩ := b2.app (by rw [b.len]; exact hn)
    subst e
    exact q r st3 r0 r1 (b.trans b3)⟩
theorem ap_get {A B : Store} {b : Nat} (h : A.length = b) (k : Nat) : (A ++ B)[b + k]? = B[k]? := by subst h; rw [List.getElem?_append_right (by omega)]; congr 1; omega
theorem ap_get0 {A B : Store} {b : Nat} (h : A.length = b) : (A ++ B)[b]? = B[0]? := ap_get h 0
theorem ap_set {A B : Store} {b : Nat} (h : A.length = b) (k : Nat) (o : SO) : (A ++ B).set (b + k) o = A ++ B.set k o := by subst h; rw [List.set_append_right _ _ (by omega)]; congr 2; omega
theorem ap_set0 {A B : Store} {b : Nat} (h : A.length = b) (o : SO) : (A ++ B).set b o = A ++ B.set 0 o := ap_set h 0 o
end
theorem ret_box {st0 st1 Z : Store} {QA : D → Store → Prop} {n k : Nat} {N : Int} {R : List D} (b : BoxTo st0 n N st1) (hR : Z[k]? = some (.lst R)) (hr : noRefs R = true) (q : QA (.lst R) st1) : RetQ st0 QA (.ref (st0.length + k)) (st1 ++ Z) :=
  .inr ⟨.lst R, .new (by omega) ((ap_get b.len k).trans hR) (fz_selfs hr), ⟨by rw [List.length_append, b.len]; omega, fun m hm => by
    rw [List.getElem?_append_left (by rw [b.len]; exact hm)]
    obtain ⟨a, b', c, d, e, _⟩ := b
    subst e
    by_cases e : n = m
    · subst e
      exact .inr ⟨_, List.getElem?_set_self hm, fzO_self rfl⟩
    · exact .inl (List.getElem?_set_ne e)⟩, by rw [← b.len, List.take_left]; exact q⟩
theorem noRefs_of {l : List D} (h : ∀ d ∈ l, noRef d = true) : noRefs l = true := by
  induction l with
  | nil => rfl
  | cons x r ih => simp only [noRefs, h x (by simp), ih fun d hd => h d (by simp [hd]), Bool.and_self]
def asp_shares : ASp := fun ds st QA _ => ∃ x, ∃ ws : List Int, ds = [x] ∧ (x = .lst (ws.map .int) ∨ ∃ n, x = .ref n ∧ st[n]? = some (.lst (ws.map .int))) ∧ ws.length ≤ 100 ∧ Sm 4000 ws.sum ∧ ws.sum ≠ 0 ∧ QA (.tup (ws.map fun w => qD (Rat.divInt w ws.sum))) st
theorem compVM_ok {α : Type} {n : Nat} {L : List D} {tg : Tg} {te : AE} {vs : List Nat} {σ0 : List (Option D)} {Q : List D → Store → Prop} {st : Store} {h g : α → D} (hL : st[n]? = some (.lst L)) (l acc : List D) (xs : List α) (hl0 : l = xs.map h)
    (step : ∀ x ∈ xs, ∃ σ1, Tg.put tg (h x) (wipeD σ0 vs) = some σ1 ∧ ∀ (A : D → Store → Prop), A (g x) st → te ⟨σ1, st⟩ (fun y S3 => A y S3.st) noX)
    (hl : acc.length + l.length ≤ sizeLine) (q : Q (acc ++ xs.map g) st) : compV n L tg aYes te vs σ0 Q l acc st := by
  subst hl0
  refine compW_ok (I := fun a s => s = st ∧ a = acc ++ (xs.take (a.length - acc.length)).map g ∧ acc.length ≤ a.length) (fun a s i => by rw [i.1]; exact hL) (xs.map h) acc st (fun j d hd a s hl i => ?_) (by simpa using hl) (fun a s hl i => ?_) ⟨rfl, by simp, by omega⟩
  · obtain ⟨e, ea, hle⟩ := i
    subst e
    rw [List.getElem?_map] at hd
    obtain ⟨x, hx, e⟩ := Option.map_eq_some_iff.mp hd
    subst e
    obtain ⟨σ1, h1, h2⟩ := step x (List.mem_of_getElem? hx)
    refine ⟨σ1, h1, fun A hA => h2 A (hA _ _ ⟨rfl, ?_, ?_⟩)⟩
    · rw [List.length_append, show a.length + [g x].length - acc.length = j + 1 by simp; omega, List.take_succ, hx, ea]
      have : (acc ++ List.map g (List.take (a.length - acc.length) xs)).length = a.length := by rw [← ea]
      rw [show a.length - acc.length = j by omega]
      simp
    · rw [List.length_append]; omega
  · obtain ⟨e, ea, _⟩ := i
    subst e
    rw [ea, show a.length - acc.length = xs.length by rw [hl]; simp, List.take_length]
    exact q
theorem p_law_shares : ∀ ds st0 QA EA, ds.length = 1 → asp_shares ds st0 QA EA → t_law_shares asp_low (bodyK st0 QA EA) ⟨Ab.start 3 ds, st0⟩ := by
  intro ds st0 QA EA hl ⟨x, ws, e, hx, h9, hs, h0, q⟩
  subst e
  have low : ∀ (w : Int) (Q : D → Store → Prop) X, Q (qD (Rat.divInt w ws.sum)) st0 → asp_low [.int w, .int ws.sum] st0 Q X := fun w Q X h => ⟨_, _, rfl, h0, hs, h⟩
  unfold t_law_shares
  rcases hx with hx | ⟨n, hx, hn⟩
  · subst hx
    walk_at "abq"
    rw [sum_lst]
    walk_at "abq"
    refine compM_ok (g := fun w => qD (Rat.divInt w ws.sum)) ws [] (fun w hw => ?_) (by simpa using sz_le h9) ?_
    · refine ⟨_, rfl, fun A hA => ?_⟩
      walk_at "abq"
      exact low _ _ _ hA
    · walk_at "abq"
      exact .inl q
  · subst hx
    walk_at "abq"
    refine ⟨ws, hn, ?_⟩
    walk_at "abq"
    refine ⟨_, ⟨_, hn, rfl⟩, ?_⟩
    refine compVM_ok (g := fun w => qD (Rat.divInt w ws.sum)) hn _ [] ws rfl (fun w hw => ?_) (by simpa using sz_le h9) ?_
    · refine ⟨_, rfl, fun A hA => ?_⟩
      walk_at "abq"
      exact low _ _ _ hA
    · exact .inl q
/-! drawn order -/
def natL (os : List Nat) : List D := os.map fun i : Nat => D.int (i : Int)
def asp_mixed : ASp := fun ds st QA _ => ∃ n, ∃ m : Nat, ∃ N, ds = [.ref n, .int m] ∧ BoxAt st n N ∧ N ≤ 2 ^ 36 ∧ m ≤ 100 ∧ ∀ (os : List Nat) st', os.Perm (List.range m) → BoxTo st n (N + m) st' → QA (.lst (natL os)) st'
abbrev mxT : AB := aTest (aOp (eqA true) (aVar 2) (aLst false aNil))
abbrev mxB : AT := aExpr (aBM "list" appendA (aVar 3) (aCons (aBM "list" popA (aVar 2) (aCons (aCall 2 asp_take (aCons (aVar 0) (aCons (aCB lenA (aCons (aVar 2) aNil)) aNil))) aNil)) aNil))
theorem perm_pop {found left : List Nat} {m i x : Nat} (h : (found ++ left).Perm (List.range m)) (hx : left[i]? = some x) : ((found ++ [x]) ++ left.eraseIdx i).Perm (List.range m) := by
  refine List.Perm.trans ?_ h
  rw [List.append_assoc]
  refine List.Perm.append_left _ ?_
  obtain ⟨hi, e⟩ := List.getElem?_eq_some_iff.mp hx
  subst e
  have e2 : left = left.take i ++ left[i] :: left.drop (i + 1) := by
    rw [List.getElem_cons_drop, List.take_append_drop]
  rw [List.eraseIdx_eq_take_drop_succ]
  conv => rhs; rw [e2]
  exact (List.perm_middle (a := left[i]) (l₁ := left.take i) (l₂ := left.drop (i + 1))).symm
theorem natL_len {os : List Nat} : (natL os).length = os.length := by simp [natL]
theorem wh_mixed {n m : Nat} {st0 : Store} {N : Int} {E : AK} (hn : n < st0.length) (hm : m ≤ 100) (hN : N ≤ 2 ^ 36)
    (h : ∀ os st1, os.Perm (List.range m) → BoxTo st0 n (N + m) st1 → E.nx ⟨[some (.ref n), some (.int m), some (.ref st0.length), some (.ref (st0.length + 1))], st1 ++ [.lst [], .lst (natL os)]⟩) :
    ∀ (k : Nat) (left found : List Nat) (st1 : Store), left.length = k → (found ++ left).Perm (List.range m) → BoxTo st0 n (N + found.length) st1 →
      whA mxT mxB E (k + 1) ⟨[some (.ref n), some (.int m), some (.ref st0.length), some (.ref (st0.length + 1))], st1 ++ [.lst (natL left), .lst (natL found)]⟩
  | k, left, found, st1, hk, hp, b => by
    have e1 := b.len
    have hl := hp.length_eq
    rw [List.length_append, List.length_range] at hl
    rw [whA]
    walk_at "abq"
    refine eqA_ref_nil (ns := left.map fun i : Nat => (i : Int)) (by rw [ap_get0 e1]; simp [natL]) ?_
    cases left with
    | nil =>
      walk_at "abq"
      refine h found st1 (by simpa using hp) ?_
      have : found.length = m := by simpa using hl
      rw [← this]; exact b
    | cons x r =>
      cases k with
      | zero => simp at hk
      | succ k =>
        walk_at "abq"
        refine ⟨⟨_, (ap_get e1 1).trans rfl⟩, ⟨_, (ap_get0 e1).trans rfl⟩, _, (ap_get0 e1).trans rfl, ?_⟩
        rw [natL_len]
        have hlm : (x :: r).length ≤ m := by omega
        refine run_takeB hn b (by omega) (by omega) (by omega) fun d st2 d0 d1 b2 => ?_
        have e2 := b2.len
        obtain ⟨i, rfl⟩ := Int.eq_ofNat_of_zero_le d0
        have hi : i < (x :: r).length := by omega
        rw [pop_ref]
        refine ⟨_, i, .int (((x :: r)[i] : Nat) : Int), (ap_get0 e2).trans rfl, by omega, by omega, by rw [natL_len]; exact seq_ix hi, ?_, ?_⟩
        · unfold natL
          rw [List.getElem?_map, List.getElem?_eq_getElem hi]; rfl
        · rw [ap_set0 e2]
          refine ⟨_, (ap_get e2 1).trans rfl, by rw [natL_len]; exact Nat.lt_of_lt_of_le (by omega : found.length < 101) (by decide), ?_⟩
          rw [ap_set e2]
          have f1 : (natL (x :: r)).eraseIdx i = natL ((x :: r).eraseIdx i) := by unfold natL; rw [List.eraseIdx_eq_take_drop_succ, List.eraseIdx_eq_take_drop_succ, List.map_append, List.map_take, List.map_drop]
          have f2 : natL found ++ [D.int (((x :: r)[i] : Nat) : Int)] = natL (found ++ [(x :: r)[i]]) := by simp [natL]
          rw [f2]
          show whA _ _ _ _ ⟨_, st2 ++ [.lst ((natL (x :: r)).eraseIdx i), .lst (natL (found ++ [(x :: r)[i]]))]⟩
          rw [f1]
          refine wh_mixed hn hm hN h k _ _ st2 (by rw [List.length_eraseIdx_of_lt hi]; omega) (perm_pop hp (List.getElem?_eq_getElem hi)) (b2.mono (by rw [List.length_append]; simp; omega))
theorem p_law_mixed : ∀ ds st0 QA EA, ds.length = 2 → asp_mixed ds st0 QA EA → t_law_mixed asp_take (bodyK st0 QA EA) ⟨Ab.start 4 ds, st0⟩ := by
  intro ds st0 QA EA hl ⟨n, m, N, e, hb, hN, hm, q⟩
  subst e
  have hn := hb.lt
  unfold t_law_mixed
  walk_at "abq"
  refine ⟨by unfold L2.RgOk; omega, m + 1, ?_⟩
  have e0 : rgD 0 m = natL (List.range m) := by unfold rgD natL; simp
  rw [e0]
  refine wh_mixed hn hm hN (fun os st1 hp b => ?_) m (List.range m) [] st0 (by simp) (by simp) (by simpa using hb.refl)
  walk_at "abq"
  exact ret_box (k := 1) (R := natL os) b rfl (noRefs_of fun d hd => by
    obtain ⟨i, _, e⟩ := List.mem_map.mp hd
    rw [← e]; rfl) (q os st1 hp b)
end K02
set_option Elab.async false
set_option linter.all false
set_option maxRecDepth 100000
set_option autoImplicit false
namespace K02
open PySem Ab K00
local macro_rules | `(tactic| walk_at "abq") => `(tactic| try simp [-Bool.exists_bool, -Bool.forall_bool, ↓exB, ↓iteB, aSeq, aAsg, aPar, aCB, aCons, aNil, aVar, aC, gName, aIfS, aTest, aNot, aAnd, aOr, aAndV, aOrV, aNotV, aIf, aOp, aUn, aRet, aTup, aLst, bodyK, Ab.start, List.replicate, aNext, aCall, aCallK, pick, aRaise, aRaise0, gSub, gTup, gNil, gCons, aExpr, aBM, aDk0, aLC, aSeqI, aSl, aPart, aNoPart, aRange1, aRange2, aFor, aYes, aPar3, wipeD, Tg.put, eqA_int, eqA_bl, eqA_nil, ix_tup, ix_lst, ix_scr, ix_ref, at_0, at_1, at_2, at_3, add_int, add_tup, add_str, add_lst, add_refl, mul_int, sub_int, fdiv_int, mod_int, pow_int, lt_int, le_int, gt_int, ge_int, neg_int, abs_int, gcd_int, max2_int, min2_int, int_int, int_bl, str_int, is_non, is_bl, isNonD, isi_ty, in_int, in_bool, in_str, in_tuple, in_list, in_dict, isiB, ty_non, ty_bl, ty_int, ty_str, ty_tup, ty_lst, ty_dk, ty_scr, len_tup, len_lst, len_scr, len_ref, len_dk, len_str, sl_tup, sl_lst, sl_scr, new_f, new_t, set_ref, app_ref, ext_ref, ty_ref, src_tup, src_lst, src_scr, ix_q0, ix_q1, aZip, aZipS, aEnum, zip_tt, zip_ll, tup_l, tup_t, tup_r, ex2t, ex2, ex2n, ex3, aLRg1, sum_ref, mul_lst, pop_ref, enum_ref, src_ref])
local macro_rules | `(tactic| walk_at "abw") => `(tactic| try simp [-Bool.exists_bool, -Bool.forall_bool, ↓exB, ↓iteB, aSeq, aAsg, aPar, aCB, aCons, aNil, aVar, aC, gName, aIfS, aTest, aNot, aAnd, aOr, aAndV, aOrV, aNotV, aIf, aOp, aUn, aRet, aTup, aLst, bodyK, Ab.start, List.replicate, aNext, aCall, aCallK, pick, aRaise, aRaise0, gSub, gTup, gNil, gCons, aExpr, aBM, aDk0, aLC, aSeqI, aSl, aPart, aNoPart, aRange1, aRange2, aFor, aYes, aPar3, wipeD, Tg.put, eqA_int, eqA_bl, eqA_nil, ix_tup, ix_lst, ix_scr, at_0, at_1, at_2, at_3, add_int, add_tup, add_str, add_lst, add_refl, mul_int, sub_int, fdiv_int, mod_int, pow_int, lt_int, le_int, gt_int, ge_int, neg_int, abs_int, gcd_int, max2_int, min2_int, int_int, int_bl, str_int, is_non, is_bl, isNonD, isi_ty, in_int, in_bool, in_str, in_tuple, in_list, in_dict, isiB, ty_non, ty_bl, ty_int, ty_str, ty_tup, ty_lst, ty_dk, ty_scr, len_tup, len_lst, len_scr, len_dk, len_str, sl_tup, sl_lst, sl_scr, new_f, new_t, app_ref, ext_ref, ty_ref, src_tup, src_lst, src_scr, ix_q0, ix_q1, aZip, aZipS, aEnum, zip_tt, zip_ll, tup_l, tup_t, tup_r, ex2t, ex2, ex2n, ex3, aLRg1, mul_lst, pop_ref])
/-! weights -/
def asp_weights : ASp := fun ds st QA _ => ∃ n, ∃ m o : Nat, ∃ N, ds = [.ref n, .int m, .int o] ∧ BoxAt st n N ∧ N ≤ 2 ^ 36 ∧ 0 < m ∧ m ≤ 100 ∧ 0 < o ∧ o ≤ 100 ∧
  ∀ (ws : List Int) st', ws.length = m → (∀ w ∈ ws, 0 ≤ w ∧ w ≤ 4) → 0 < ws.sum → BoxTo st n (N + 2 * m + 1) st' → QA (.ref st.length) (st' ++ [.lst (ws.map .int)])
theorem sum_pos : ∀ {ws : List Int}, (∀ w ∈ ws, 0 ≤ w) → 0 ≤ ws.sum
  | [], _ => by simp
  | x :: r, h => by
    rw [List.sum_cons]
    have := sum_pos (ws := r) fun w hw => h w (by simp [hw])
    have := h x (by simp)
    omega
theorem sum_ge : ∀ {ws : List Int} {i : Nat} {x : Int}, (∀ w ∈ ws, 0 ≤ w) → ws[i]? = some x → x ≤ ws.sum
  | [], _, _, _, e => by simp at e
  | y :: r, 0, x, h, e => by
    simp at e; subst e
    rw [List.sum_cons]
    have := sum_pos (ws := r) fun w hw => h w (by simp [hw])
    omega
  | y :: r, i + 1, x, h, e => by
    rw [List.sum_cons]
    have := sum_ge (ws := r) (i := i) (x := x) (fun w hw => h w (by simp [hw])) (by simpa using e)
    have := h y (by simp)
    omega
theorem set_all {P : Int → Prop} {ws : List Int} {i : Nat} {x : Int} (h : ∀ w ∈ ws, P w) (hx : P x) : ∀ w ∈ ws.set i x, P w := fun w hw => by
  rcases List.mem_or_eq_of_mem_set hw with h1 | h1
  · exact h w h1
  · rw [h1]; exact hx
theorem p_law_weights : ∀ ds st0 QA EA, ds.length = 3 → asp_weights ds st0 QA EA → t_law_weights asp_take (bodyK st0 QA EA) ⟨Ab.start 5 ds, st0⟩ := by
  intro ds st0 QA EA hl ⟨n, m, o, N, e, hb, hN, m0, hm, o0, ho, q⟩
  subst e
  have hn := hb.lt
  unfold t_law_weights
  walk_at "abq"
  refine ⟨by omega, ?_⟩
  refine compI_ok (I := fun acc st => ∃ ws : List Int, acc = ws.map .int ∧ (∀ w ∈ ws, 0 ≤ w ∧ w ≤ 4) ∧ BoxTo st0 n (N + 2 * acc.length) st) _ [] st0 (fun j d hd acc st hj i => ?_) (by simpa [rg_len] using sz_le (by omega)) (fun acc st hj i => ?_) ⟨[], rfl, by simp, by simpa using hb.refl⟩
  · obtain ⟨ws, ea, hw, b⟩ := i
    have hjm : j < m := by
      have := (List.getElem?_eq_some_iff.mp hd).1
      rwa [rg_len] at this
    simp only [List.length_nil, Nat.zero_add] at hj
    refine ⟨_, rfl, fun A hA => ?_⟩
    have fin : ∀ (x : Int) (st' : Store), 0 ≤ x → x ≤ 4 → BoxTo st0 n (N + 2 * acc.length + 2) st' → A (.int x) st' := fun x st' x0 x4 b' => hA _ _ ⟨ws ++ [x], by rw [ea]; simp, fun w hw' => by
      rcases List.mem_append.mp hw' with h | h
      · exact hw w h
      · rw [List.mem_singleton.mp h]; exact ⟨x0, x4⟩, by
      rw [List.length_append]
      exact b'.mono (by simp; omega)⟩
    walk_at "abq"
    refine run_takeC hn b (by omega) (by omega) (by omega) fun r st2 r0 r1 b2 => ?_
    walk_at "abq"
    refine ⟨fun hr => ?_, fun hr => ?_⟩
    · refine run_takeC hn b2 (by omega) (by omega) (by omega) fun r st3 r0 r1 b3 => ?_
      walk_at "abq"
      exact fin _ _ (by omega) (by omega) (b3.mono (by omega))
    · exact fin _ _ (by omega) (by omega) (b2.mono (by omega))
  · obtain ⟨ws, ea, hw, b⟩ := i
    have e1 := b.len
    simp only [List.length_nil, Nat.zero_add, rg_len] at hj
    have hlen : ws.length = m := by rw [ea] at hj; simpa using hj
    have hw0 : ∀ w ∈ ws, 0 ≤ w := fun w h => (hw w h).1
    subst ea
    rw [hj] at b
    refine ⟨ws, rfl, fun hz => ?_, fun hz => ?_⟩
    · rw [e1]
      refine run_takeB hn b (by omega) (by omega) (by omega) fun d st2 d0 d1 b2 => ?_
      have e2 := b2.len
      obtain ⟨i, rfl⟩ := Int.eq_ofNat_of_zero_le d0
      rw [set_ref]
      refine ⟨_, i, (ap_get0 e2).trans rfl, by unfold L2.ixN; rw [if_pos (by omega), if_pos (by simp; omega)]; simp, ?_⟩
      rw [ap_set0 e2, List.set_cons_zero, ← List.map_set]
      refine .inl (q _ _ (by rw [List.length_set]; exact hlen) (set_all hw (by omega)) ?_ (b2.mono (by omega)))
      have := sum_ge (ws := ws.set i 1) (i := i) (x := 1) (set_all hw0 (by omega)) (List.getElem?_set_self (by omega))
      omega
    · have := sum_pos hw0
      rw [e1]
      exact .inl (q ws st hlen hw (by omega) (b.mono (by omega)))
end K02
set_option Elab.async false
set_option linter.all false
set_option maxRecDepth 100000
set_option autoImplicit false
namespace K34
open PySem Ab K00 K02
/-! sums of differences -/
def sumF (n : Nat) (h : Nat → Rat) : Rat := sumQ ((List.range n).map h)
def absQ (x : Rat) : Rat := if 0 ≤ x then x else -x
def posQ (x : Rat) : Rat := if 0 < x then x else 0
def half : Rat := Rat.divInt 1 2
theorem q_half : D.tup [.int 1, .int 2] = qD half := by rfl
theorem half_two (x : Rat) : (x + x) * half = x := by
  have : half = 1 / 2 := by decide +kernel
  rw [this]; grind
theorem q_abs {q : Rat} : D.tup [.int (q.num.natAbs : Int), .int q.den] = qD (absQ q) := by
  unfold absQ qD
  by_cases h : 0 ≤ q
  · rw [if_pos h]
    have := Rat.num_nonneg.mpr h
    rw [Int.natAbs_of_nonneg this]
  · rw [if_neg h]
    have : q.num < 0 := by
      have : ¬ 0 ≤ q.num := fun z => h (Rat.num_nonneg.mp z)
      omega
    rw [Rat.neg_num, Rat.neg_den]
    rw [show (q.num.natAbs : Int) = -q.num by omega]
theorem abs_pos (x : Rat) : absQ x = posQ x + posQ x + (-1) * x := by
  unfold absQ posQ
  split <;> split <;> grind
theorem vary_eq {n : Nat} {h : Nat → Rat} (hz : sumF n h = 0) : sumF n (fun k => absQ (h k)) * half = sumF n fun k => posQ (h k) := by
  unfold sumF at *
  simp only [abs_pos, sumQ_add, sumQ_mul, hz, Rat.mul_zero, Rat.add_zero]
  exact half_two _
theorem posQ_nonneg (x : Rat) : 0 ≤ posQ x := by unfold posQ; split <;> grind
theorem le_posQ (x : Rat) : x ≤ posQ x := by unfold posQ; split <;> grind
theorem ev_le (h : Nat → Rat) (p : Nat → Bool) : ∀ l : List Nat, sumQ ((l.filter p).map h) ≤ sumQ (l.map fun k => posQ (h k))
  | [] => by simp [sumQ_nil]
  | x :: r => by
    have ih := ev_le h p r
    have h1 := posQ_nonneg (h x)
    have h2 := le_posQ (h x)
    by_cases hp : p x = true
    · rw [List.filter_cons_of_pos hp, List.map_cons, List.map_cons, sumQ_cons, sumQ_cons]
      grind
    · rw [List.filter_cons_of_neg hp, List.map_cons, sumQ_cons]
      grind
theorem ev_pos (h : Nat → Rat) : ∀ l : List Nat, sumQ ((l.filter fun k => decide (0 < h k)).map h) = sumQ (l.map fun k => posQ (h k))
  | [] => rfl
  | x :: r => by
    have ih := ev_pos h r
    by_cases hp : 0 < h x
    · rw [List.filter_cons_of_pos (by simpa using hp), List.map_cons, List.map_cons, sumQ_cons, sumQ_cons, ih]
      unfold posQ; rw [if_pos hp]
    · rw [List.filter_cons_of_neg (by simpa using hp), List.map_cons, sumQ_cons, ih]
      unfold posQ; rw [if_neg hp, Rat.zero_add]
/-! masks -/
def maskOf (p : Nat → Bool) : Nat → Nat
  | 0 => 0
  | n + 1 => maskOf p n ||| (if p n then 2 ^ n else 0)
theorem mask_lt (p : Nat → Bool) : ∀ n, maskOf p n < 2 ^ n
  | 0 => Nat.one_pos
  | n + 1 => by
    refine Nat.or_lt_two_pow (Nat.lt_of_lt_of_le (mask_lt p n) (Nat.pow_le_pow_right (by decide) (by omega))) ?_
    split
    · exact Nat.pow_lt_pow_right (by decide) (by omega)
    · exact Nat.pow_pos (by decide)
theorem mask_bit (p : Nat → Bool) : ∀ n k, k < n → (maskOf p n).testBit k = p k
  | 0, k, h => by omega
  | n + 1, k, h => by
    unfold maskOf
    rw [Nat.testBit_or]
    by_cases e : k = n
    · subst e
      rw [Nat.testBit_lt_two_pow (mask_lt p k), Bool.false_or]
      cases hp : p k with
      | true => simp [Nat.testBit_two_pow_self]
      | false => simp
    · rw [mask_bit p n k (by omega)]
      have : (if p n then 2 ^ n else 0 : Nat).testBit k = false := by
        split
        · rw [Nat.testBit_two_pow_of_ne (by omega)]
        · simp
      rw [this, Bool.or_false]
theorem bit_and (m k : Nat) : Builtin.bitAnd ((m : Int) / 2 ^ k) 1 = if m.testBit k then 1 else 0 := by
  unfold Builtin.bitAnd
  have h0 : (0 : Int) ≤ (m : Int) / 2 ^ k := Int.ediv_nonneg (by omega) (Int.le_of_lt (Int.pow_pos (by decide)))
  rw [decide_eq_true h0, decide_eq_true (by decide : (0 : Int) ≤ 1)]
  show (((((m : Int) / 2 ^ k).toNat &&& (1 : Int).toNat : Nat)) : Int) = _
  have e : ((m : Int) / 2 ^ k).toNat = m / 2 ^ k := by
    rw [show ((m : Int) / 2 ^ k) = ((m / 2 ^ k : Nat) : Int) by norm_cast]
    rfl
  rw [e, show (1 : Int).toNat = 1 from rfl, Nat.and_one_is_mod, Nat.testBit_eq_decide_div_mod_eq]
  have := Nat.mod_two_eq_zero_or_one (m / 2 ^ k)
  rcases this with h | h <;> rw [h] <;> simp
/-- the greatest of a list, from a start -/
def bestQ (b : Rat) (l : List Rat) : Rat := l.foldl (fun b x => if b < x then x else b) b
theorem bestQ_ge : ∀ (l : List Rat) (b : Rat), b ≤ bestQ b l ∧ ∀ x ∈ l, x ≤ bestQ b l
  | [], b => ⟨Rat.le_refl, by simp⟩
  | y :: r, b => by
    have ih := bestQ_ge r (if b < y then y else b)
    have e : bestQ b (y :: r) = bestQ (if b < y then y else b) r := rfl
    rw [e]
    have h0 : b ≤ (if b < y then y else b) ∧ y ≤ (if b < y then y else b) := by split <;> grind
    refine ⟨Rat.le_trans h0.1 ih.1, fun x hx => ?_⟩
    rcases List.mem_cons.mp hx with h | h
    · rw [h]; exact Rat.le_trans h0.2 ih.1
    · exact ih.2 x h
theorem bestQ_mem : ∀ (l : List Rat) (b : Rat), bestQ b l = b ∨ bestQ b l ∈ l
  | [], b => .inl rfl
  | y :: r, b => by
    have e : bestQ b (y :: r) = bestQ (if b < y then y else b) r := rfl
    rw [e]
    rcases bestQ_mem r (if b < y then y else b) with h | h
    · rw [h]
      split
      · exact .inr (by simp)
      · exact .inl rfl
    · exact .inr (by simp [h])
theorem bestQ_eq {l : List Rat} {b x : Rat} (hb : b ≤ x) (hx : x ∈ l) (h : ∀ y ∈ l, y ≤ x) : bestQ b l = x := by
  have h1 := (bestQ_ge l b).2 x hx
  rcases bestQ_mem l b with e | e
  · rw [e] at h1 ⊢; exact Rat.le_antisymm hb h1
  · exact Rat.le_antisymm (h _ e) h1
/-- all sets: the greatest is the sum of what is above 0 -/
theorem greatest_eq (n : Nat) (h : Nat → Rat) : bestQ 0 ((List.range (2 ^ n)).map fun m => sumQ (((List.range n).filter fun k => m.testBit k).map h)) = sumF n fun k => posQ (h k) := by
  have key : (List.range n).filter (fun k => (maskOf (fun k => decide (0 < h k)) n).testBit k) = (List.range n).filter fun k => decide (0 < h k) :=
    List.filter_congr fun k hk => mask_bit _ n k (List.mem_range.mp hk)
  refine bestQ_eq ?_ (List.mem_map.mpr ⟨maskOf (fun k => decide (0 < h k)) n, List.mem_range.mpr (mask_lt _ n), ?_⟩) fun y hy => ?_
  · have := ev_le h (fun _ => false) (List.range n)
    rw [show (List.range n).filter (fun _ => false) = [] by simp] at this
    exact this
  · rw [key, ev_pos]; rfl
  · obtain ⟨m, _, e⟩ := List.mem_map.mp hy
    rw [← e]
    exact ev_le h _ _
end K34
set_option Elab.async false
set_option linter.all false
set_option maxRecDepth 100000
set_option autoImplicit false
namespace K34
open PySem Ab K00
local macro_rules | `(tactic| walk_at "abq") => `(tactic| try simp [-Bool.exists_bool, -Bool.forall_bool, ↓exB, ↓iteB, aSeq, aAsg, aPar, aCB, aCons, aNil, aVar, aC, gName, aIfS, aTest, aNot, aAnd, aOr, aAndV, aOrV, aNotV, aIf, aOp, aUn, aRet, aTup, aLst, bodyK, Ab.start, List.replicate, aNext, aCall, aCallK, pick, aRaise, aRaise0, gSub, gTup, gNil, gCons, aExpr, aBM, aDk0, aLC, aSeqI, aSl, aPart, aNoPart, aRange1, aRange2, aFor, aYes, aPar3, wipeD, Tg.put, eqA_int, eqA_bl, eqA_nil, ix_tup, ix_lst, ix_scr, ix_ref, at_0, at_1, at_2, at_3, add_int, add_tup, add_str, add_lst, add_refl, mul_int, sub_int, fdiv_int, mod_int, pow_int, lt_int, le_int, gt_int, ge_int, neg_int, abs_int, gcd_int, max2_int, min2_int, int_int, int_bl, str_int, is_non, is_bl, isNonD, isi_ty, in_int, in_bool, in_str, in_tuple, in_list, in_dict, isiB, ty_non, ty_bl, ty_int, ty_str, ty_tup, ty_lst, ty_dk, ty_scr, len_tup, len_lst, len_scr, len_ref, len_dk, len_str, sl_tup, sl_lst, sl_scr, new_f, new_t, set_ref, app_ref, ext_ref, ty_ref, src_tup, src_lst, src_scr, ix_q0, ix_q1, aZip, aZipS, aEnum, zip_tt, zip_ll, tup_l, tup_t, tup_r, ex2t, ex2, ex2n, ex3, aLRg1, sum_ref, mul_lst, pop_ref, enum_ref, src_ref, gUnl, lsq_lst, aChain, aEnumX, enumX_t, enumX_l, mulX_tup, aTru, truD])
local macro_rules | `(tactic| walk_at "abw") => `(tactic| try simp [-Bool.exists_bool, -Bool.forall_bool, ↓exB, ↓iteB, aSeq, aAsg, aPar, aCB, aCons, aNil, aVar, aC, gName, aIfS, aTest, aNot, aAnd, aOr, aAndV, aOrV, aNotV, aIf, aOp, aUn, aRet, aTup, aLst, bodyK, Ab.start, List.replicate, aNext, aCall, aCallK, pick, aRaise, aRaise0, gSub, gTup, gNil, gCons, aExpr, aBM, aDk0, aLC, aSeqI, aSl, aPart, aNoPart, aRange1, aRange2, aFor, aYes, aPar3, wipeD, Tg.put, eqA_int, eqA_bl, eqA_nil, ix_tup, ix_lst, ix_scr, at_0, at_1, at_2, at_3, add_int, add_tup, add_str, add_lst, add_refl, mul_int, sub_int, fdiv_int, mod_int, pow_int, lt_int, le_int, gt_int, ge_int, neg_int, abs_int, gcd_int, max2_int, min2_int, int_int, int_bl, str_int, is_non, is_bl, isNonD, isi_ty, in_int, in_bool, in_str, in_tuple, in_list, in_dict, isiB, ty_non, ty_bl, ty_int, ty_str, ty_tup, ty_lst, ty_dk, ty_scr, len_tup, len_lst, len_scr, len_dk, len_str, sl_tup, sl_lst, sl_scr, new_f, new_t, app_ref, ext_ref, ty_ref, src_tup, src_lst, src_scr, ix_q0, ix_q1, aZip, aZipS, aEnum, zip_tt, zip_ll, tup_l, tup_t, tup_r, ex2t, ex2, ex2n, ex3, aLRg1, mul_lst, pop_ref, gUnl, lsq_lst, aChain, aEnumX, enumX_t, enumX_l, mulX_tup, aTru, truD])
open K02
/-! distributions -/
def Dis (n : Nat) (f : Nat → Rat) : Prop := 0 < n ∧ n ≤ 7 ∧ (∀ i, i < n → 0 ≤ f i) ∧ sumF n f = 1 ∧ ∃ D : Nat, D ≠ 0 ∧ D ≤ 2 ^ 10 ∧ ∀ i, i < n → Gr D D (f i)
/-- two rows with one denominator -/
def DG (n : Nat) (f g : Nat → Rat) : Prop := n ≤ 9 ∧ ∃ D : Nat, D ≠ 0 ∧ D ≤ 2 ^ 20 ∧ ∀ i, i < n → Gr D D (f i) ∧ Gr D D (g i)
theorem Dis.dg {n : Nat} {f g : Nat → Rat} (h1 : Dis n f) (h2 : Dis n g) : DG n f g := by
  obtain ⟨_, n7, _, _, D, D0, hD, hf⟩ := h1
  obtain ⟨_, _, _, _, E, E0, hE, hg⟩ := h2
  refine ⟨by omega, D * E, Nat.mul_ne_zero D0 E0, ?_, fun i hi => ⟨(hf i hi).scale E0, ?_⟩⟩
  · exact (show D * E ≤ 2 ^ 10 * 2 ^ 10 from Nat.mul_le_mul hD hE)
  · have := (hg i hi).scale D0
    rwa [Nat.mul_comm E D] at this
theorem Gr.neg {d b : Nat} {p : Rat} (h : Gr d b p) : Gr d b (-p) := by
  obtain ⟨h0, k, hk, e⟩ := h
  exact ⟨h0, -k, by omega, by rw [e, Rat.neg_divInt]⟩
theorem Gr.sub {d b c : Nat} {p q : Rat} (h : Gr d b p) (g : Gr d c q) : Gr d (b + c) (p - q) := by
  rw [Rat.sub_eq_add_neg]; exact h.add (Gr.neg g)
theorem Gr.absQ {d b : Nat} {p : Rat} (h : Gr d b p) : Gr d b (absQ p) := by
  unfold K34.absQ; split
  · exact h
  · exact Gr.neg h
theorem DG.gap {n : Nat} {f g : Nat → Rat} (h : DG n f g) : ∃ D : Nat, D ≠ 0 ∧ D ≤ 2 ^ 20 ∧ ∀ i, i < n → SmQ 1000 (f i) ∧ SmQ 1000 (g i) ∧ Gr D (D + D) (f i - g i) := by
  obtain ⟨n9, D, D0, hD, hd⟩ := h
  have hs : D < 2 ^ 1000 := Nat.lt_of_le_of_lt hD (by decide)
  exact ⟨D, D0, hD, fun i hi => ⟨(hd i hi).1.sm hs hs, (hd i hi).2.sm hs hs, Gr.sub (hd i hi).1 (hd i hi).2⟩⟩
theorem sumOk_of {D b : Nat} {l : List Rat} (hl : l.length ≤ 9) (D0 : D ≠ 0) (hD : D ≤ 2 ^ 900) (hb : b ≤ 2 ^ 900) (h : ∀ q ∈ l, Gr D b q) : SumOk l :=
  ⟨hl, D, b, D0, Nat.lt_of_le_of_lt hD (by decide), Nat.lt_of_le_of_lt hb (by decide), Nat.lt_of_le_of_lt (Nat.mul_le_mul hl hb) (by decide), h⟩
theorem two20 {a b : Nat} (h : a ≤ 2 ^ 20) (hb : b ≤ 900) (hb2 : 21 ≤ b) : a + a ≤ 2 ^ b := Nat.le_trans (show a + a ≤ 2 ^ 21 by omega) (Nat.pow_le_pow_right (by decide) hb2)
theorem DG.sumOk {n : Nat} {f g : Nat → Rat} (h : DG n f g) {r : Rat → Rat} (hr : ∀ d b p, Gr d b p → Gr d b (r p)) : SumOk ((List.range n).map fun i => r (f i - g i)) := by
  have n9 := h.1
  obtain ⟨D, D0, hD, hd⟩ := h.gap
  refine sumOk_of (D := D) (b := D + D) (by simpa using n9) D0 (Nat.le_trans hD (Nat.pow_le_pow_right (by decide) (by decide))) (two20 hD (by decide) (by decide)) fun q hq => ?_
  obtain ⟨i, hi, e⟩ := List.mem_map.mp hq
  subst e
  exact hr _ _ _ (hd i (List.mem_range.mp hi)).2.2
theorem lt_iff' {p q : Rat} : (p.num * q.den < q.num * p.den) ↔ p < q := (Rat.lt_iff p q).symm
def asp_is_less : ASp := fun ds st QA _ => ∃ p q : Rat, ds = [qD p, qD q] ∧ SmQ 1000 p ∧ SmQ 1000 q ∧ QA (.bl (decide (p < q))) st
theorem cmp_neg {p q : Rat} : decide (cmpI p q < 0) = decide (p < q) := by
  unfold cmpI
  apply Bool.eq_iff_iff.mpr
  rw [decide_eq_true_iff, decide_eq_true_iff, ← lt_iff']
  by_cases h1 : p.num * q.den < q.num * p.den
  · rw [if_pos h1, if_neg (by omega)]; simp [h1]
  · rw [if_neg h1]; split <;> simp [h1]
theorem p_is_less : ∀ ds st0 QA EA, ds.length = 2 → asp_is_less ds st0 QA EA → t_is_less asp_compare (bodyK st0 QA EA) ⟨Ab.start 2 ds, st0⟩ := by
  intro ds st0 QA EA hl ⟨p, q, e, hp, hq, h⟩
  subst e
  unfold t_is_less
  walk_at "abw"
  rw [run_compare hp hq]
  walk_at "abw"
  refine .inl ?_
  rw [cmp_neg]; exact h
theorem run_less {p q : Rat} {st : Store} {Q : D → Store → Prop} {X : XD → Store → Prop} (hp : SmQ 1000 p) (hq : SmQ 1000 q) : asp_is_less [qD p, qD q] st Q X = Q (.bl (decide (p < q))) st := propext (two_q.trans ⟨fun h => h.2.2, fun h => ⟨hp, hq, h⟩⟩)
theorem run_below' {p q : Rat} {st : Store} {Q : D → Store → Prop} {X : XD → Store → Prop} (hp : SmQ 1000 p) (hq : SmQ 1000 q) : asp_below [qD p, qD q] st Q X = Q (.bl (decide (p < q))) st := by
  rw [run_below hp hq]
  congr 2
  exact decide_eq_decide.mpr lt_iff'
/-- the greatest of some, not none -/
def maxL (l : List Rat) : Rat := bestQ (l.headD 0) l
theorem maxL_cons (x : Rat) (l : List Rat) : maxL (x :: l) = bestQ x l := by
  unfold maxL bestQ
  simp only [List.headD_cons, List.foldl_cons, ite_self]
theorem sm_best {n : Nat} : ∀ {l : List Rat} {b : Rat}, SmQ n b → (∀ q ∈ l, SmQ n q) → SmQ n (bestQ b l) := fun {l b} hb h => by
  rcases bestQ_mem l b with e | e
  · rw [e]; exact hb
  · exact h _ e
def asp_greatest : ASp := fun ds st QA _ => ∃ l : List Rat, ds = [.lst (l.map qD)] ∧ l ≠ [] ∧ (∀ q ∈ l, SmQ 1000 q) ∧ QA (qD (maxL l)) st
theorem p_greatest : ∀ ds st0 QA EA, ds.length = 1 → asp_greatest ds st0 QA EA → t_greatest asp_is_less (bodyK st0 QA EA) ⟨Ab.start 3 ds, st0⟩ := by
  intro ds st0 QA EA hl ⟨l, e, hne, hs, h⟩
  subst e
  unfold t_greatest
  cases l with
  | nil => exact absurd rfl hne
  | cons x r =>
    walk_at "abw"
    refine forL_ix (I := fun k S => ∃ w, S = ⟨[some (.lst (qD x :: r.map qD)), some (qD (bestQ x ((x :: r).take k))), w], st0⟩) ((x :: r).map qD) 0 (fun j d he K hK S hS => ?_) (fun S hS => ?_) _ ⟨none, rfl⟩
    · rw [Nat.zero_add] at *
      obtain ⟨w, e⟩ := hS
      subst e
      rw [List.getElem?_map] at he
      obtain ⟨y, hy, e⟩ := Option.map_eq_some_iff.mp he
      subst e
      have hsb : SmQ 1000 (bestQ x ((x :: r).take j)) := sm_best (hs x (by simp)) fun q hq => hs q (List.mem_of_mem_take hq)
      have e2 : bestQ x ((x :: r).take (j + 1)) = if bestQ x ((x :: r).take j) < y then y else bestQ x ((x :: r).take j) := by
        rw [List.take_succ, hy]
        unfold bestQ
        simp
      walk_at "abw"
      rw [run_less hsb (hs y (List.mem_of_getElem? hy))]
      walk_at "abw"
      refine ⟨fun h => hK _ ⟨some (qD y), ?_⟩, fun h => hK _ ⟨some (qD y), ?_⟩⟩
      · rw [e2, if_pos h]
      · rw [e2, if_neg h]
    · obtain ⟨w, e⟩ := hS
      subst e
      walk_at "abw"
      refine .inl ?_
      have : maxL (x :: r) = bestQ x (x :: r) := rfl
      rw [this] at h
      simpa using h
theorem run_greatest {st : Store} {Q : D → Store → Prop} {X : XD → Store → Prop} {l : List Rat} (hne : l ≠ []) (hs : ∀ q ∈ l, SmQ 1000 q) (q : Q (qD (maxL l)) st) : asp_greatest [.lst (l.map qD)] st Q X := ⟨l, rfl, hne, hs, q⟩
/-! total of a list or a tuple -/
def asp_tot : ASp := fun ds st QA _ => ∃ (l : List Rat) (d : D), ds = [d] ∧ (d = .lst (l.map qD) ∨ d = .tup (l.map qD)) ∧ SumOk l ∧ QA (qD (sumQ l)) st
theorem p_total' : ∀ ds st0 QA EA, ds.length = 1 → asp_tot ds st0 QA EA → t_total asp_add (bodyK st0 QA EA) ⟨Ab.start 3 ds, st0⟩ := by
  intro ds st0 QA EA hl ⟨l, x, e, hx, ⟨h9, d, b, d0, hd, hb, hs, hg⟩, q⟩
  subst e
  have main : forL (gName 2) (aAsg (aCall 2 asp_add (aCons (aVar 1) (aCons (aVar 2) aNil))) (gName 1)) { bodyK st0 QA EA with nx := fun S => aRet (aVar 1) (bodyK st0 QA EA) S } (l.map qD) ⟨[some x, some (qD 0), none], st0⟩ := by
    refine forL_ix (I := fun k S => ∃ w, S = ⟨[some x, some (qD (sumQ (l.take k))), w], st0⟩) (l.map qD) 0 (fun j e he K hK S hS => ?_) (fun S hS => ?_) _ ⟨_, rfl⟩
    · obtain ⟨w, hS⟩ := hS
      subst hS
      rw [List.getElem?_map] at he
      obtain ⟨x, hx, e⟩ := Option.map_eq_some_iff.mp he
      subst e
      rw [Nat.zero_add] at *
      have hj : j < l.length := (List.getElem?_eq_some_iff.mp hx).1
      have gx : Gr d b x := hg x (List.mem_of_getElem? hx)
      have gs : Gr d (l.length * b) (sumQ (l.take j)) := (Gr.sum d0 (l.take j) fun q hq => hg q (List.mem_of_mem_take hq)).mono (by rw [List.length_take]; exact Nat.mul_le_mul_right _ (by omega))
      walk_at "abw"
      rw [run_add (gs.sm hd hs) (gx.sm hd hb)]
      refine hK _ ⟨some (qD x), ?_⟩
      rw [List.take_succ, hx]
      show _ = _
      unfold sumQ
      simp
    · obtain ⟨w, hS⟩ := hS
      subst hS
      walk_at "abw"
      refine .inl ?_
      simpa using q
  unfold t_total
  rw [q_zero]
  rcases hx with e | e
  · subst e
    walk_at "abw"
    exact main
  · subst e
    walk_at "abw"
    exact main
theorem run_totL {st : Store} {Q : D → Store → Prop} {X : XD → Store → Prop} {l : List Rat} (h : SumOk l) (q : Q (qD (sumQ l)) st) : asp_tot [.lst (l.map qD)] st Q X := ⟨l, _, rfl, .inl rfl, h, q⟩
theorem run_totT {st : Store} {Q : D → Store → Prop} {X : XD → Store → Prop} {l : List Rat} (h : SumOk l) (q : Q (qD (sumQ l)) st) : asp_tot [.tup (l.map qD)] st Q X := ⟨l, _, rfl, .inr rfl, h, q⟩
end K34
set_option Elab.async false
set_option linter.all false
set_option maxRecDepth 100000
set_option autoImplicit false
namespace K34
open PySem Ab K00
local macro_rules | `(tactic| walk_at "abq") => `(tactic| try simp [-Bool.exists_bool, -Bool.forall_bool, ↓exB, ↓iteB, aSeq, aAsg, aPar, aCB, aCons, aNil, aVar, aC, gName, aIfS, aTest, aNot, aAnd, aOr, aAndV, aOrV, aNotV, aIf, aOp, aUn, aRet, aTup, aLst, bodyK, Ab.start, List.replicate, aNext, aCall, aCallK, pick, aRaise, aRaise0, gSub, gTup, gNil, gCons, aExpr, aBM, aDk0, aLC, aSeqI, aSl, aPart, aNoPart, aRange1, aRange2, aFor, aYes, aPar3, wipeD, Tg.put, eqA_int, eqA_bl, eqA_nil, ix_tup, ix_lst, ix_scr, ix_ref, at_0, at_1, at_2, at_3, add_int, add_tup, add_str, add_lst, add_refl, mul_int, sub_int, fdiv_int, mod_int, pow_int, lt_int, le_int, gt_int, ge_int, neg_int, abs_int, gcd_int, max2_int, min2_int, int_int, int_bl, str_int, is_non, is_bl, isNonD, isi_ty, in_int, in_bool, in_str, in_tuple, in_list, in_dict, isiB, ty_non, ty_bl, ty_int, ty_str, ty_tup, ty_lst, ty_dk, ty_scr, len_tup, len_lst, len_scr, len_ref, len_dk, len_str, sl_tup, sl_lst, sl_scr, new_f, new_t, set_ref, app_ref, ext_ref, ty_ref, src_tup, src_lst, src_scr, ix_q0, ix_q1, aZip, aZipS, aEnum, zip_tt, zip_ll, tup_l, tup_t, tup_r, ex2t, ex2, ex2n, ex3, aLRg1, sum_ref, mul_lst, pop_ref, enum_ref, src_ref, gUnl, lsq_lst, aChain, aEnumX, enumX_t, enumX_l, mulX_tup, aTru, truD])
local macro_rules | `(tactic| walk_at "abw") => `(tactic| try simp [-Bool.exists_bool, -Bool.forall_bool, ↓exB, ↓iteB, aSeq, aAsg, aPar, aCB, aCons, aNil, aVar, aC, gName, aIfS, aTest, aNot, aAnd, aOr, aAndV, aOrV, aNotV, aIf, aOp, aUn, aRet, aTup, aLst, bodyK, Ab.start, List.replicate, aNext, aCall, aCallK, pick, aRaise, aRaise0, gSub, gTup, gNil, gCons, aExpr, aBM, aDk0, aLC, aSeqI, aSl, aPart, aNoPart, aRange1, aRange2, aFor, aYes, aPar3, wipeD, Tg.put, eqA_int, eqA_bl, eqA_nil, ix_tup, ix_lst, ix_scr, at_0, at_1, at_2, at_3, add_int, add_tup, add_str, add_lst, add_refl, mul_int, sub_int, fdiv_int, mod_int, pow_int, lt_int, le_int, gt_int, ge_int, neg_int, abs_int, gcd_int, max2_int, min2_int, int_int, int_bl, str_int, is_non, is_bl, isNonD, isi_ty, in_int, in_bool, in_str, in_tuple, in_list, in_dict, isiB, ty_non, ty_bl, ty_int, ty_str, ty_tup, ty_lst, ty_dk, ty_scr, len_tup, len_lst, len_scr, len_dk, len_str, sl_tup, sl_lst, sl_scr, new_f, new_t, app_ref, ext_ref, ty_ref, src_tup, src_lst, src_scr, ix_q0, ix_q1, aZip, aZipS, aEnum, zip_tt, zip_ll, tup_l, tup_t, tup_r, ex2t, ex2, ex2n, ex3, aLRg1, mul_lst, pop_ref, gUnl, lsq_lst, aChain, aEnumX, enumX_t, enumX_l, mulX_tup, aTru, truD])
open K02
/-! what is a distribution -/
def isPr : D → Bool
  | .tup [.int a, .int b] => decide (0 < b) && decide (((a.natAbs.gcd b.natAbs : Nat) : Int) = 1) && (decide (0 ≤ a) && decide (a ≤ b))
  | _ => false
theorem isPr_q {q : Rat} : isPr (qD q) = decide (0 ≤ q ∧ q ≤ 1) := by
  show (decide ((0 : Int) < (q.den : Int)) && decide (((q.num.natAbs.gcd ((q.den : Int)).natAbs : Nat) : Int) = 1) && (decide (0 ≤ q.num) && decide (q.num ≤ (q.den : Int)))) = _
  have h1 : (0 : Int) < q.den := by have := q.den_pos; omega
  have h2 : (((q.num.natAbs.gcd ((q.den : Int)).natAbs : Nat)) : Int) = 1 := by
    rw [Int.natAbs_natCast]
    have : q.num.natAbs.gcd q.den = 1 := q.reduced
    rw [this]; rfl
  rw [decide_eq_true h1, decide_eq_true h2, Bool.true_and, Bool.true_and]
  have h3 : (0 ≤ q.num) ↔ 0 ≤ q := Rat.num_nonneg
  have h4 : (q.num ≤ q.den) ↔ q ≤ 1 := by
    rw [Rat.le_iff]
    simp
  apply Bool.eq_iff_iff.mpr
  rw [Bool.and_eq_true, decide_eq_true_iff, decide_eq_true_iff, decide_eq_true_iff, h3, h4]
def asp_is_prob : ASp := fun ds st QA _ => ∃ x, ds = [x] ∧ TyOk st x ∧ QA (.bl (isPr x)) st
theorem isFr_pr {x : D} (h : isFr x = true) : ∃ a b : Int, x = .tup [.int a, .int b] ∧ isPr x = (decide (0 ≤ a) && decide (a ≤ b)) := by
  unfold isFr at h
  split at h
  · rename_i a b
    refine ⟨a, b, rfl, ?_⟩
    show (decide (0 < b) && decide (((a.natAbs.gcd b.natAbs : Nat) : Int) = 1) && (decide (0 ≤ a) && decide (a ≤ b))) = _
    rw [h, Bool.true_and]
  · cases h
theorem isFr_not {x : D} (h : isFr x = false) : isPr x = false := by
  unfold isFr at h
  unfold isPr
  split at h
  · rename_i a b
    simp only
    rw [h]; rfl
  · rename_i hx
    split
    · rename_i a b
      exact absurd rfl (hx a b)
    · rfl
theorem p_is_probability : ∀ ds st0 QA EA, ds.length = 1 → asp_is_prob ds st0 QA EA → t_is_probability asp_is_fr (bodyK st0 QA EA) ⟨Ab.start 1 ds, st0⟩ := by
  intro ds st0 QA EA hl ⟨x, e, ht, h⟩
  subst e
  unfold t_is_probability
  walk_at "abw"
  refine ⟨x, rfl, ht, ?_⟩
  cases hf : isFr x with
  | false =>
    walk_at "abw"
    rw [isFr_not hf] at h
    exact .inl h
  | true =>
    obtain ⟨a, b, e, hp⟩ := isFr_pr hf
    rw [hp] at h
    subst e
    walk_at "abw"
    refine ⟨fun h1 => ?_, fun h1 => ?_⟩
    · rw [decide_eq_true h1, Bool.true_and] at h
      exact .inl h
    · rw [decide_eq_false (by omega), Bool.false_and] at h
      exact .inl h
/-- what is_distribution tells of x -/
def tupN (n : Int) : D → Bool
  | .tup xs => decide ((xs.length : Int) = n)
  | _ => false
def IsD (st : Store) (n : Int) (x : D) (b : Bool) : Prop :=
  (b = false ∧ (∃ T, tyName st x = some T) ∧ tupN n x = false) ∨
  (b = false ∧ ∃ xs, x = .tup xs ∧ (xs.length : Int) = n ∧ xs.length ≤ 100 ∧ (∀ y ∈ xs, TyOk st y) ∧ ∃ y ∈ xs, isPr y = false) ∨
  ∃ l : List Rat, x = .tup (l.map qD) ∧ (l.length : Int) = n ∧ (∀ q ∈ l, 0 ≤ q ∧ q ≤ 1) ∧ SumOk l ∧ b = decide (sumQ l = 1)
def asp_isd : ASp := fun ds st QA _ => ∃ n x b, ds = [.int n, x] ∧ IsD st n x b ∧ QA (.bl b) st
theorem compX_ok {tg : Tg} {te : AE} {vs : List Nat} {σ0 : List (Option D)} {Q : List D → Store → Prop} {st : Store} {g : D → D} (l acc : List D)
    (step : ∀ x ∈ l, ∃ σ1, Tg.put tg x (wipeD σ0 vs) = some σ1 ∧ ∀ (A : D → Store → Prop), A (g x) st → te ⟨σ1, st⟩ (fun y S3 => A y S3.st) noX)
    (hl : acc.length + l.length ≤ sizeLine) (q : Q (acc ++ l.map g) st) : compL tg aYes te vs σ0 Q l acc st := by
  have := compM_ok (h := id) (g := g) (tg := tg) (te := te) (vs := vs) (σ0 := σ0) (Q := Q) (st := st) l acc step hl q
  rwa [List.map_id] at this
theorem qD_one {q : Rat} {st : Store} {Q : D → Store → Prop} (h : Q (.bl (decide (q = 1))) st) : eqA false (qD q) (.tup [.int 1, .int 1]) st Q := by
  unfold qD
  refine ⟨_, _, rfl, rfl, by unfold SeqAt.shaped; rfl, by decide +kernel, ?_⟩
  have : PyData.eqv (.tuple [.int q.num, .int q.den]) (.tuple [.int 1, .int 1]) = decide (q = 1) := by
    simp only [PyData.eqv, PyData.eqvAll, Bool.and_true]
    apply Bool.eq_iff_iff.mpr
    rw [Bool.and_eq_true, decide_eq_true_iff]
    constructor
    · intro ⟨h1, h2⟩
      have h1 := eq_of_beq h1
      have h2 := eq_of_beq h2
      exact Rat.ext h1 (by have h3 : (q.den : Int) = 1 := h2; show q.den = 1; omega)
    · intro h; subst h; exact ⟨by decide, by decide⟩
  rw [this]; simpa using h
theorem tyOk_q {st : Store} {q : Rat} : TyOk st (qD q) := ⟨⟨_, rfl⟩, fun xs e => by
  unfold qD at e
  cases e
  refine ⟨sz2, fun y hy => ?_⟩
  simp at hy
  rcases hy with h | h <;> subst h <;> exact ⟨_, rfl⟩⟩
theorem run_tupof {st : Store} {Q : D → Store → Prop} {X : XD → Store → Prop} {x : D} {n : Int} {T : String} (hT : tyName st x = some T) (q : Q (.bl (tupN n x)) st) : asp_tup_of [x, .int n] st Q X := ⟨x, n, T, rfl, hT, by cases x <;> exact q⟩
theorem p_is_distribution : ∀ ds st0 QA EA, ds.length = 2 → asp_isd ds st0 QA EA → t_is_distribution asp_tot asp_is_prob asp_tup_of (bodyK st0 QA EA) ⟨Ab.start 3 ds, st0⟩ := by
  intro ds st0 QA EA hl ⟨n, x, b, e, hx, h⟩
  subst e
  unfold t_is_distribution
  walk_at "abw"
  have len_of : ∀ m : Nat, (m : Int) = n → n = m := fun m h => h.symm
  rcases hx with ⟨hb, ⟨T, hT⟩, hn⟩ | ⟨hb, xs, e, hn, h100, hty, y, hy, hyp⟩ | ⟨l, e, hn, hpr, hs, hb⟩
  · subst hb
    refine run_tupof hT ?_
    rw [hn]
    walk_at "abw"
    exact .inl h
  · subst hb e
    refine run_tupof (T := "tuple") rfl ?_
    rw [show tupN n (.tup xs) = true from decide_eq_true hn]
    walk_at "abw"
    refine compX_ok (g := fun y => .bl (isPr y)) xs [] (fun y hy => ?_) (by simpa using sz_le h100) ?_
    · refine ⟨_, rfl, fun A hA => ?_⟩
      walk_at "abw"
      exact ⟨y, rfl, hty y hy, hA⟩
    · rw [List.nil_append, show xs.map (fun y => D.bl (isPr y)) = (xs.map isPr).map D.bl by simp, all_lst]
      rw [show (xs.map isPr).all id = false from by
        rw [List.all_eq_false]
        exact ⟨isPr y, List.mem_map.mpr ⟨y, hy, rfl⟩, by simp [hyp]⟩]
      walk_at "abw"
      exact .inl h
  · subst hb e
    have h9 := hs.1
    refine run_tupof (T := "tuple") rfl ?_
    rw [show tupN n (.tup (l.map qD)) = true from decide_eq_true (by simpa using hn)]
    walk_at "abw"
    refine compM_ok (h := qD) (g := fun q => .bl (isPr (qD q))) l [] (fun q hq => ?_) (by simpa using sz_le (by omega)) ?_
    · refine ⟨_, rfl, fun A hA => ?_⟩
      walk_at "abw"
      exact ⟨_, rfl, tyOk_q, hA⟩
    · rw [List.nil_append, show l.map (fun q => D.bl (isPr (qD q))) = (l.map fun q => isPr (qD q)).map D.bl by simp, all_lst]
      rw [show (l.map fun q => isPr (qD q)).all id = true from by
        rw [List.all_eq_true]
        intro b hb
        obtain ⟨q, hq, e⟩ := List.mem_map.mp hb
        rw [← e, isPr_q]
        simp [hpr q hq]]
      walk_at "abw"
      refine run_totT hs ?_
      refine qD_one ?_
      exact .inl h
/-- what check_distributions refuses -/
def BadV (st : Store) (x : D) : Prop := (∃ T, tyName st x = some T ∧ T ≠ "tuple") ∨ ∃ xs, x = .tup xs ∧ (xs.length = 0 ∨ 7 < xs.length ∨ IsD st xs.length x false)
theorem Dis.isd {n : Nat} {f : Nat → Rat} {st : Store} (h : Dis n f) : IsD st n (VD n f) true := by
  obtain ⟨n0, n7, f0, fs, D, D0, hD, hg⟩ := h
  refine .inr (.inr ⟨(List.range n).map f, ?_, by simp, fun q hq => ?_, ?_, ?_⟩)
  · unfold VD; simp
  · obtain ⟨i, hi, e⟩ := List.mem_map.mp hq
    have hi := List.mem_range.mp hi
    subst e
    refine ⟨f0 i hi, ?_⟩
    obtain ⟨_, k, hk, e⟩ := hg i hi
    rw [e]
    rw [Rat.le_iff_sub_nonneg]
    have hD0 : (D : Int) ≠ 0 := by omega
    have e1 : (1 : Rat) = Rat.divInt D D := by rw [Rat.divInt_self' hD0]
    rw [e1, Rat.divInt_sub_divInt _ _ hD0 hD0, ← Int.sub_mul, Rat.divInt_mul_right hD0]
    rw [Rat.divInt_nonneg_iff_of_pos_right (by omega)]
    omega
  · exact sumOk_of (D := D) (b := D) (by simp; omega) D0 (Nat.le_trans hD (Nat.pow_le_pow_right (by decide) (by decide))) (Nat.le_trans hD (Nat.pow_le_pow_right (by decide) (by decide))) fun q hq => by
      obtain ⟨i, hi, e⟩ := List.mem_map.mp hq
      subst e
      exact hg i (List.mem_range.mp hi)
  · have : sumQ ((List.range n).map f) = 1 := fs
    rw [this]; rfl
end K34
set_option Elab.async false
set_option linter.all false
set_option maxRecDepth 100000
set_option autoImplicit false
namespace K34
open PySem Ab K00
local macro_rules | `(tactic| walk_at "abq") => `(tactic| try simp [-Bool.exists_bool, -Bool.forall_bool, ↓exB, ↓iteB, aSeq, aAsg, aPar, aCB, aCons, aNil, aVar, aC, gName, aIfS, aTest, aNot, aAnd, aOr, aAndV, aOrV, aNotV, aIf, aOp, aUn, aRet, aTup, aLst, bodyK, Ab.start, List.replicate, aNext, aCall, aCallK, pick, aRaise, aRaise0, gSub, gTup, gNil, gCons, aExpr, aBM, aDk0, aLC, aSeqI, aSl, aPart, aNoPart, aRange1, aRange2, aFor, aYes, aPar3, wipeD, Tg.put, eqA_int, eqA_bl, eqA_nil, ix_tup, ix_lst, ix_scr, ix_ref, at_0, at_1, at_2, at_3, add_int, add_tup, add_str, add_lst, add_refl, mul_int, sub_int, fdiv_int, mod_int, pow_int, lt_int, le_int, gt_int, ge_int, neg_int, abs_int, gcd_int, max2_int, min2_int, int_int, int_bl, str_int, is_non, is_bl, isNonD, isi_ty, in_int, in_bool, in_str, in_tuple, in_list, in_dict, isiB, ty_non, ty_bl, ty_int, ty_str, ty_tup, ty_lst, ty_dk, ty_scr, len_tup, len_lst, len_scr, len_ref, len_dk, len_str, sl_tup, sl_lst, sl_scr, new_f, new_t, set_ref, app_ref, ext_ref, ty_ref, src_tup, src_lst, src_scr, ix_q0, ix_q1, aZip, aZipS, aEnum, zip_tt, zip_ll, tup_l, tup_t, tup_r, ex2t, ex2, ex2n, ex3, aLRg1, sum_ref, mul_lst, pop_ref, enum_ref, src_ref, gUnl, lsq_lst, aChain, aEnumX, enumX_t, enumX_l, mulX_tup, aTru, truD])
local macro_rules | `(tactic| walk_at "abw") => `(tactic| try simp [-Bool.exists_bool, -Bool.forall_bool, ↓exB, ↓iteB, aSeq, aAsg, aPar, aCB, aCons, aNil, aVar, aC, gName, aIfS, aTest, aNot, aAnd, aOr, aAndV, aOrV, aNotV, aIf, aOp, aUn, aRet, aTup, aLst, bodyK, Ab.start, List.replicate, aNext, aCall, aCallK, pick, aRaise, aRaise0, gSub, gTup, gNil, gCons, aExpr, aBM, aDk0, aLC, aSeqI, aSl, aPart, aNoPart, aRange1, aRange2, aFor, aYes, aPar3, wipeD, Tg.put, eqA_int, eqA_bl, eqA_nil, ix_tup, ix_lst, ix_scr, at_0, at_1, at_2, at_3, add_int, add_tup, add_str, add_lst, add_refl, mul_int, sub_int, fdiv_int, mod_int, pow_int, lt_int, le_int, gt_int, ge_int, neg_int, abs_int, gcd_int, max2_int, min2_int, int_int, int_bl, str_int, is_non, is_bl, isNonD, isi_ty, in_int, in_bool, in_str, in_tuple, in_list, in_dict, isiB, ty_non, ty_bl, ty_int, ty_str, ty_tup, ty_lst, ty_dk, ty_scr, len_tup, len_lst, len_scr, len_dk, len_str, sl_tup, sl_lst, sl_scr, new_f, new_t, app_ref, ext_ref, ty_ref, src_tup, src_lst, src_scr, ix_q0, ix_q1, aZip, aZipS, aEnum, zip_tt, zip_ll, tup_l, tup_t, tup_r, ex2t, ex2, ex2n, ex3, aLRg1, mul_lst, pop_ref, gUnl, lsq_lst, aChain, aEnumX, enumX_t, enumX_l, mulX_tup, aTru, truD])
open K02
/-! asked of two values -/
def Chk (C : Addr) (R : Nat → (Nat → Rat) → (Nat → Rat) → D) : ASp := fun ds st QA EA => ∃ x y, ds = [x, y] ∧ ((∃ n f g, x = VD n f ∧ y = VD n g ∧ Dis n f ∧ Dis n g ∧ QA (R n f g) st) ∨
  (BadV st x ∧ EA ⟨.ref C, [("given", x)]⟩ st) ∨ ∃ n f, x = VD n f ∧ Dis n f ∧ IsD st n y false ∧ EA ⟨.ref C, [("given", y)]⟩ st)
def asp_check (C : Addr) : ASp := Chk C fun _ _ _ => .non
theorem VD_len {n : Nat} {f : Nat → Rat} : ∃ xs, VD n f = .tup xs ∧ xs.length = n := ⟨_, rfl, by simp⟩
theorem p_check_distributions {C : Addr} : ∀ ds st0 QA EA, ds.length = 2 → asp_check C ds st0 QA EA → t_check_distributions asp_isd C (bodyK st0 QA EA) ⟨Ab.start 3 ds, st0⟩ := by
  intro ds st0 QA EA hl ⟨x, y, e, h⟩
  subst e
  have ok : ∀ (n : Nat) (x : D) (b : Bool) (Q : D → Store → Prop) X, IsD st0 n x b → Q (.bl b) st0 → asp_isd [.int n, x] st0 Q X := fun n x b Q X h q => ⟨n, x, b, rfl, h, q⟩
  unfold t_check_distributions
  rcases h with ⟨n, f, g, e1, e2, hf, hg, q⟩ | ⟨hb, q⟩ | ⟨n, f, e, hf, hy, q⟩
  · subst e1 e2
    have d1 := hf.isd (st := st0)
    have d2 := hg.isd (st := st0)
    have n0 := hf.1
    have n7 := hf.2.1
    obtain ⟨xs, ex, hx⟩ := VD_len (n := n) (f := f)
    rw [ex] at d1 ⊢
    walk_at "abw"
    rw [hx]
    refine ⟨fun _ => ?_, fun h => by omega⟩
    refine ⟨fun h => by omega, fun _ => ?_⟩
    refine ok _ _ _ _ _ d1 ?_
    walk_at "abw"
    refine ok _ _ _ _ _ d2 ?_
    walk_at "abw"
    exact .inl q
  · rcases hb with ⟨T, hT, hne⟩ | ⟨xs, e, hb⟩
    · have hi : isiB T "tuple" = false := by
        unfold isiB
        simp [hne]
      walk_at "abw"
      refine ⟨T, hT, fun h => absurd h hne, fun _ => .inl q⟩
    · subst e
      walk_at "abw"
      refine ⟨fun h1 => ?_, fun h1 => .inl q⟩
      refine ⟨fun h2 => .inl q, fun h2 => ?_⟩
      have hb : IsD st0 xs.length (.tup xs) false := by
        rcases hb with h | h | h
        · omega
        · omega
        · exact h
      refine ok _ _ _ _ _ hb ?_
      walk_at "abw"
      exact .inl q
  · subst e
    have d1 := hf.isd (st := st0)
    have n0 := hf.1
    have n7 := hf.2.1
    obtain ⟨xs, ex, hx⟩ := VD_len (n := n) (f := f)
    rw [ex] at d1 ⊢
    walk_at "abw"
    rw [hx]
    refine ⟨fun _ => ?_, fun h => by omega⟩
    refine ⟨fun h => by omega, fun _ => ?_⟩
    refine ok _ _ _ _ _ d1 ?_
    walk_at "abw"
    refine ok _ _ _ _ _ hy ?_
    walk_at "abw"
    exact .inl q
theorem chk_then {C : Addr} {R R' : Nat → (Nat → Rat) → (Nat → Rat) → D} {ds : List D} {st : Store} {Q Q' : D → Store → Prop} {E E' : XD → Store → Prop} (h : Chk C R ds st Q E)
    (hq : ∀ n f g, ds = [VD n f, VD n g] → Dis n f → Dis n g → Q (R n f g) st → Q' (R' n f g) st) (he : ∀ e, E e st → E' e st) : Chk C R' ds st Q' E' := by
  obtain ⟨x, y, e, h⟩ := h
  refine ⟨x, y, e, ?_⟩
  rcases h with ⟨n, f, g, e1, e2, hf, hg, q⟩ | ⟨hb, q⟩ | ⟨n, f, e, hf, hy, q⟩
  · exact .inl ⟨n, f, g, e1, e2, hf, hg, hq n f g (by rw [e, e1, e2]) hf hg q⟩
  · exact .inr (.inl ⟨hb, he _ q⟩)
  · exact .inr (.inr ⟨n, f, e, hf, hy, he _ q⟩)
def asp_gap : ASp := fun ds st QA _ => ∃ p q : Rat, ds = [qD p, qD q] ∧ SmQ 1000 p ∧ SmQ 1000 q ∧ QA (qD (absQ (p - q))) st
theorem p_gap : ∀ ds st0 QA EA, ds.length = 2 → asp_gap ds st0 QA EA → t_gap asp_sub (bodyK st0 QA EA) ⟨Ab.start 4 ds, st0⟩ := by
  intro ds st0 QA EA hl ⟨p, q, e, hp, hq, h⟩
  subst e
  unfold t_gap
  rw [← q_abs] at h
  walk_at "abw"
  rw [run_sub hp hq]
  unfold qD
  walk_at "abw"
  exact ⟨sz2, .inl h⟩
theorem run_gap {p q : Rat} {st : Store} {Q : D → Store → Prop} {X : XD → Store → Prop} (hp : SmQ 1000 p) (hq : SmQ 1000 q) (h : Q (qD (absQ (p - q))) st) : asp_gap [qD p, qD q] st Q X := ⟨p, q, rfl, hp, hq, h⟩
def varyQ (n : Nat) (f g : Nat → Rat) : Rat := half * sumF n fun i => absQ (f i - g i)
def asp_vof : ASp := fun ds st QA _ => ∃ n f g, ds = [VD n f, VD n g] ∧ DG n f g ∧ QA (qD (varyQ n f g)) st
theorem sm_half : SmQ 1000 half := by
  have : half.num = 1 ∧ half.den = 2 := by decide +kernel
  unfold SmQ Sm
  rw [this.1, this.2]
  decide
theorem DG.sumSm {n : Nat} {f g : Nat → Rat} (h : DG n f g) {r : Rat → Rat} (hr : ∀ d b p, Gr d b p → Gr d b (r p)) : SmQ 1000 (sumF n fun i => r (f i - g i)) := by
  obtain ⟨h9, d, b, d0, hd, hb, hs, hg⟩ := h.sumOk hr
  exact (Gr.sum d0 _ hg).sm hd hs
theorem p_variation_of : ∀ ds st0 QA EA, ds.length = 2 → asp_vof ds st0 QA EA → t_variation_of asp_mul asp_tot asp_gap (bodyK st0 QA EA) ⟨Ab.start 4 ds, st0⟩ := by
  intro ds st0 QA EA hl ⟨n, f, g, e, hdg, h⟩
  subst e
  obtain ⟨D, D0, hD, hd⟩ := hdg.gap
  have n9 := hdg.1
  unfold t_variation_of
  rw [q_half]
  walk_at "abw"
  unfold VD
  refine ⟨_, zip_tt, ?_⟩
  show compL _ _ _ _ _ _ _ _ _
  rw [zipD_map]
  refine compM_ok (g := fun i => qD (absQ (f i - g i))) _ [] (fun i hi => ?_) (by simpa using sz_le (by omega)) ?_
  · have hi := List.mem_range.mp hi
    refine ⟨_, rfl, fun A hA => ?_⟩
    walk_at "abw"
    exact run_gap (hd i hi).1 (hd i hi).2.1 hA
  · rw [List.nil_append, show (List.range n).map (fun i => qD (absQ (f i - g i))) = ((List.range n).map fun i => absQ (f i - g i)).map qD by simp]
    refine run_totL (hdg.sumOk fun d b p => Gr.absQ) ?_
    show asp_mul [qD half, qD (sumF n fun i => absQ (f i - g i))] _ _ _
    rw [run_mul sm_half (hdg.sumSm fun d b p => Gr.absQ)]
    exact .inl h
end K34
set_option Elab.async false
set_option linter.all false
set_option maxRecDepth 100000
set_option autoImplicit false
namespace K34
open PySem Ab K00
local macro_rules | `(tactic| walk_at "abq") => `(tactic| try simp [-Bool.exists_bool, -Bool.forall_bool, ↓exB, ↓iteB, aSeq, aAsg, aPar, aCB, aCons, aNil, aVar, aC, gName, aIfS, aTest, aNot, aAnd, aOr, aAndV, aOrV, aNotV, aIf, aOp, aUn, aRet, aTup, aLst, bodyK, Ab.start, List.replicate, aNext, aCall, aCallK, pick, aRaise, aRaise0, gSub, gTup, gNil, gCons, aExpr, aBM, aDk0, aLC, aSeqI, aSl, aPart, aNoPart, aRange1, aRange2, aFor, aYes, aPar3, wipeD, Tg.put, eqA_int, eqA_bl, eqA_nil, ix_tup, ix_lst, ix_scr, ix_ref, at_0, at_1, at_2, at_3, add_int, add_tup, add_str, add_lst, add_refl, mul_int, sub_int, fdiv_int, mod_int, pow_int, lt_int, le_int, gt_int, ge_int, neg_int, abs_int, gcd_int, max2_int, min2_int, int_int, int_bl, str_int, is_non, is_bl, isNonD, isi_ty, in_int, in_bool, in_str, in_tuple, in_list, in_dict, isiB, ty_non, ty_bl, ty_int, ty_str, ty_tup, ty_lst, ty_dk, ty_scr, len_tup, len_lst, len_scr, len_ref, len_dk, len_str, sl_tup, sl_lst, sl_scr, new_f, new_t, set_ref, app_ref, ext_ref, ty_ref, src_tup, src_lst, src_scr, ix_q0, ix_q1, aZip, aZipS, aEnum, zip_tt, zip_ll, tup_l, tup_t, tup_r, ex2t, ex2, ex2n, ex3, aLRg1, sum_ref, mul_lst, pop_ref, enum_ref, src_ref, gUnl, lsq_lst, aChain, aEnumX, enumX_t, enumX_l, mulX_tup, aTru, truD])
local macro_rules | `(tactic| walk_at "abw") => `(tactic| try simp [-Bool.exists_bool, -Bool.forall_bool, ↓exB, ↓iteB, aSeq, aAsg, aPar, aCB, aCons, aNil, aVar, aC, gName, aIfS, aTest, aNot, aAnd, aOr, aAndV, aOrV, aNotV, aIf, aOp, aUn, aRet, aTup, aLst, bodyK, Ab.start, List.replicate, aNext, aCall, aCallK, pick, aRaise, aRaise0, gSub, gTup, gNil, gCons, aExpr, aBM, aDk0, aLC, aSeqI, aSl, aPart, aNoPart, aRange1, aRange2, aFor, aYes, aPar3, wipeD, Tg.put, eqA_int, eqA_bl, eqA_nil, ix_tup, ix_lst, ix_scr, at_0, at_1, at_2, at_3, add_int, add_tup, add_str, add_lst, add_refl, mul_int, sub_int, fdiv_int, mod_int, pow_int, lt_int, le_int, gt_int, ge_int, neg_int, abs_int, gcd_int, max2_int, min2_int, int_int, int_bl, str_int, is_non, is_bl, isNonD, isi_ty, in_int, in_bool, in_str, in_tuple, in_list, in_dict, isiB, ty_non, ty_bl, ty_int, ty_str, ty_tup, ty_lst, ty_dk, ty_scr, len_tup, len_lst, len_scr, len_dk, len_str, sl_tup, sl_lst, sl_scr, new_f, new_t, app_ref, ext_ref, ty_ref, src_tup, src_lst, src_scr, ix_q0, ix_q1, aZip, aZipS, aEnum, zip_tt, zip_ll, tup_l, tup_t, tup_r, ex2t, ex2, ex2n, ex3, aLRg1, mul_lst, pop_ref, gUnl, lsq_lst, aChain, aEnumX, enumX_t, enumX_l, mulX_tup, aTru, truD])
open K02
theorem run_vof {n : Nat} {f g : Nat → Rat} {st : Store} {Q : D → Store → Prop} {X : XD → Store → Prop} (h : DG n f g) (q : Q (qD (varyQ n f g)) st) : asp_vof [VD n f, VD n g] st Q X := ⟨n, f, g, rfl, h, q⟩
def R0 (n : Nat) (f g : Nat → Rat) : D := qD (varyQ n f g)
def R1 (n : Nat) (f g : Nat → Rat) : D := .tup (natL ((List.range n).filter fun k => decide (g k < f k)))
def apartL (n : Nat) (f g : Nat → Rat) : List Rat := ((List.range n).filter fun i => decide (g i ≠ 0)).map fun i => 1 - f i / g i
def R2 (n : Nat) (f g : Nat → Rat) : D := qD (maxL (apartL n f g))
def asp_variation (C : Addr) : ASp := Chk C R0
def asp_event (C : Addr) : ASp := Chk C R1
def asp_separation (C : Addr) : ASp := Chk C R2
theorem p_variation {C : Addr} : ∀ ds st0 QA EA, ds.length = 2 → asp_variation C ds st0 QA EA → t_variation (asp_check C) asp_vof (bodyK st0 QA EA) ⟨Ab.start 2 ds, st0⟩ := by
  intro ds st0 QA EA hl h
  have h' := h
  obtain ⟨x, y, e, _⟩ := h'
  subst e
  unfold t_variation
  walk_at "abw"
  refine chk_then h (fun n f g e hf hg q => ?_) fun e q => .inl q
  cases e
  exact run_vof (hf.dg hg) (.inl q)
theorem compF_ok {α : Type} {tg : Tg} {tt : AB} {te : AE} {vs : List Nat} {σ0 : List (Option D)} {Q : List D → Store → Prop} {st : Store} {h g : α → D} {p : α → Bool} : ∀ (l : List α) (acc : List D),
    (∀ x ∈ l, ∃ σ1, Tg.put tg (h x) (wipeD σ0 vs) = some σ1 ∧ ∀ (A : D → Store → Prop) (B : Store → Prop), (p x = true → A (g x) st) → (p x = false → B st) → tt ⟨σ1, st⟩ (fun b S2 => if b = true then te S2 (fun y S3 => A y S3.st) noX else B S2.st) noX) →
    acc.length + l.length ≤ sizeLine → Q (acc ++ (l.filter p).map g) st → compL tg tt te vs σ0 Q (l.map h) acc st
  | [], acc, _, _, q => by simpa [compL] using q
  | x :: r, acc, step, hl, q => by
    obtain ⟨σ1, h1, h2⟩ := step x (by simp)
    rw [List.length_cons] at hl
    refine ⟨σ1, h1, h2 (fun y st' => acc.length < sizeLine ∧ compL tg tt te vs σ0 Q (r.map h) (acc ++ [y]) st') (fun st' => compL tg tt te vs σ0 Q (r.map h) acc st') (fun hp => ⟨by omega, ?_⟩) (fun hp => ?_)⟩
    · refine compF_ok r (acc ++ [g x]) (fun e he => step e (by simp [he])) (by rw [List.length_append]; simp; omega) ?_
      rw [List.filter_cons_of_pos hp] at q
      simpa using q
    · refine compF_ok r acc (fun e he => step e (by simp [he])) (by omega) ?_
      rw [List.filter_cons_of_neg (by simp [hp])] at q
      exact q
theorem enum_map {h : Nat → D} {n : Nat} : enumD ((List.range n).map h) = (List.range n).map fun i => .tup [.int (i : Int), h i] := by
  unfold enumD
  rw [List.length_map, List.length_range]
  generalize List.range n = l
  induction l with
  | nil => rfl
  | cons x r ih => simp only [List.map_cons, List.zipWith_cons_cons, ih]
theorem qD_eq {p q : Rat} {neg : Bool} {st : Store} {Q : D → Store → Prop} (h : Q (.bl (decide (p = q) != neg)) st) : eqA neg (qD p) (qD q) st Q := by
  unfold qD
  refine ⟨_, _, rfl, rfl, by unfold SeqAt.shaped; rfl, by unfold SeqAt.shaped; rfl, ?_⟩
  have : PyData.eqv (.tuple [.int p.num, .int p.den]) (.tuple [.int q.num, .int q.den]) = decide (p = q) := by
    simp only [PyData.eqv, PyData.eqvAll, Bool.and_true]
    apply Bool.eq_iff_iff.mpr
    rw [Bool.and_eq_true, decide_eq_true_iff]
    constructor
    · intro ⟨h1, h2⟩
      have h1 : p.num = q.num := eq_of_beq h1
      have h2 : (p.den : Int) = q.den := eq_of_beq h2
      exact Rat.ext h1 (by omega)
    · intro h; subst h; exact ⟨beq_self_eq_true _, beq_self_eq_true _⟩
  rw [this]; exact h
theorem p_best_event {C : Addr} : ∀ ds st0 QA EA, ds.length = 2 → asp_event C ds st0 QA EA → t_best_event (asp_check C) asp_is_less (bodyK st0 QA EA) ⟨Ab.start 4 ds, st0⟩ := by
  intro ds st0 QA EA hl h
  have h' := h
  obtain ⟨x, y, e, _⟩ := h'
  subst e
  unfold t_best_event
  walk_at "abw"
  refine chk_then h (fun n f g e hf hg q => ?_) fun e q => .inl q
  cases e
  have hdg := hf.dg hg
  obtain ⟨D, D0, hD, hd⟩ := hdg.gap
  have n9 := hdg.1
  refine ⟨_, enumX_t.mpr rfl, ?_⟩
  show compL _ _ _ _ _ _ _ _ _
  rw [enum_map]
  refine compF_ok (α := Nat) (g := fun i : Nat => .int (i : Int)) (p := fun k => decide (g k < f k)) _ [] (fun i hi => ?_) (by simpa using sz_le (by omega)) ?_
  · have hi := List.mem_range.mp hi
    refine ⟨_, rfl, fun A B hA hB => ?_⟩
    walk_at "abw"
    refine ix_row (.inl rfl) hi ?_
    rw [run_less (hd i hi).2.1 (hd i hi).1]
    walk_at "abw"
    exact ⟨fun h => hA (decide_eq_true h), fun h => hB (decide_eq_false h)⟩
  · exact .inl q
theorem sm_apart {n : Nat} {f g : Nat → Rat} (h : DG n f g) {i : Nat} (hi : i < n) (hg0 : g i ≠ 0) : SmQ 1000 (f i / g i) ∧ SmQ 1000 (1 - f i / g i) := by
  obtain ⟨n9, D, D0, hD, hd⟩ := h
  obtain ⟨_, k, hk, e1⟩ := (hd i hi).1
  obtain ⟨_, l, hl, e2⟩ := (hd i hi).2
  have hD0 : (D : Int) ≠ 0 := by omega
  have l0 : l ≠ 0 := fun z => hg0 (by rw [e2, z]; simp)
  have e : f i / g i = Rat.divInt k l := by
    rw [e1, e2, Rat.div_def, Rat.inv_divInt, Rat.divInt_mul_divInt, Int.mul_comm k D, Rat.divInt_mul_left hD0]
  have b : ∀ m : Int, m.natAbs ≤ 2 ^ 21 → Sm 1000 m := fun m hm => by
    unfold Sm; exact Nat.lt_of_le_of_lt hm (by decide)
  have e3 : (1 : Rat) - Rat.divInt k l = Rat.divInt (l - k) l := by
    have : (1 : Rat) = Rat.divInt l l := by rw [Rat.divInt_self' l0]
    rw [this, Rat.divInt_sub_divInt _ _ l0 l0, ← Int.sub_mul, Rat.divInt_mul_right l0]
  rw [e, e3]
  exact ⟨sm_divInt l0 (b _ (by omega)) (b _ (by omega)), sm_divInt l0 (b _ (by omega)) (b _ (by omega))⟩
theorem sm_one : SmQ 1000 1 := ⟨(by show (1 : Nat) < 2 ^ 1000; decide), (by show (1 : Nat) < 2 ^ 1000; decide)⟩
theorem apart_ne {n : Nat} {f g : Nat → Rat} (h : sumF n g = 1) : apartL n f g ≠ [] := fun z => by
  have : (List.range n).filter (fun i => decide (g i ≠ 0)) = [] := List.map_eq_nil_iff.mp z
  rw [List.filter_eq_nil_iff] at this
  have e : sumF n g = 0 := by
    unfold sumF
    rw [show (List.range n).map g = (List.range n).map fun _ => (0 : Rat) from List.map_congr_left fun i hi => by
      have := this i hi
      simpa using this]
    exact sumQ_zero _
  rw [e] at h
  exact absurd h (by decide)
theorem p_separation {C C0 : Addr} : ∀ ds st0 QA EA, ds.length = 2 → asp_separation C ds st0 QA EA → t_separation (asp_check C) asp_greatest asp_sub (asp_divide C0) (bodyK st0 QA EA) ⟨Ab.start 5 ds, st0⟩ := by
  intro ds st0 QA EA hl h
  have h' := h
  obtain ⟨x, y, e, _⟩ := h'
  subst e
  unfold t_separation
  rw [q_zero, q_one]
  walk_at "abw"
  refine chk_then h (fun n f g e hf hg q => ?_) fun e q => .inl q
  cases e
  have hdg := hf.dg hg
  obtain ⟨D, D0, hD, hd⟩ := hdg.gap
  have n9 := hdg.1
  have hne := apart_ne (f := f) hg.2.2.2.1
  unfold VD
  refine ⟨_, zip_tt, ?_⟩
  show compL _ _ _ _ _ _ _ _ _
  rw [zipD_map]
  refine compF_ok (g := fun i => .tup [qD (f i), qD (g i)]) (p := fun i => decide (g i ≠ 0)) _ [] (fun i hi => ?_) (by simpa using sz_le (by omega)) ?_
  · have hi := List.mem_range.mp hi
    refine ⟨_, rfl, fun A B hA hB => ?_⟩
    walk_at "abw"
    refine qD_eq ?_
    walk_at "abw"
    exact ⟨fun h => ⟨sz2, hA (by simpa using h)⟩, fun h => hB (by simpa using h)⟩
  · rw [List.nil_append]
    walk_at "abw"
    refine compM_ok (h := fun i => .tup [qD (f i), qD (g i)]) (g := fun i => qD (1 - f i / g i)) _ [] (fun i hi => ?_) (by simpa using sz_le (Nat.le_trans (List.length_filter_le _ _) (by simp; omega))) ?_
    · obtain ⟨h1, h2⟩ := List.mem_filter.mp hi
      have hi := List.mem_range.mp h1
      have h0 : g i ≠ 0 := by simpa using h2
      have hs := sm_apart hdg hi h0
      refine ⟨_, rfl, fun A hA => ?_⟩
      walk_at "abw"
      rw [run_divide (hd i hi).1 (hd i hi).2.1 (eq_false h0), run_sub sm_one hs.1]
      exact hA
    · rw [List.nil_append]
      have e : ((List.range n).filter fun i => decide (g i ≠ 0)).map (fun i => qD (1 - f i / g i)) = (apartL n f g).map qD := by
        unfold apartL; rw [List.map_map]; rfl
      rw [show (List.range n).filter (fun i => !decide (g i = 0)) = (List.range n).filter fun i => decide (g i ≠ 0) from List.filter_congr fun i _ => by simp, e]
      refine run_greatest hne (fun z hz => ?_) (.inl q)
      obtain ⟨i, hi, e⟩ := List.mem_map.mp hz
      obtain ⟨h1, h2⟩ := List.mem_filter.mp hi
      subst e
      exact (sm_apart hdg (List.mem_range.mp h1) (by simpa using h2)).2
end K34
set_option Elab.async false
set_option linter.all false
set_option maxRecDepth 100000
set_option autoImplicit false
namespace K34
open PySem Ab K00
local macro_rules | `(tactic| walk_at "abq") => `(tactic| try simp [-Bool.exists_bool, -Bool.forall_bool, ↓exB, ↓iteB, aSeq, aAsg, aPar, aCB, aCons, aNil, aVar, aC, gName, aIfS, aTest, aNot, aAnd, aOr, aAndV, aOrV, aNotV, aIf, aOp, aUn, aRet, aTup, aLst, bodyK, Ab.start, List.replicate, aNext, aCall, aCallK, pick, aRaise, aRaise0, gSub, gTup, gNil, gCons, aExpr, aBM, aDk0, aLC, aSeqI, aSl, aPart, aNoPart, aRange1, aRange2, aFor, aYes, aPar3, wipeD, Tg.put, eqA_int, eqA_bl, eqA_nil, ix_tup, ix_lst, ix_scr, ix_ref, at_0, at_1, at_2, at_3, add_int, add_tup, add_str, add_lst, add_refl, mul_int, sub_int, fdiv_int, mod_int, pow_int, lt_int, le_int, gt_int, ge_int, neg_int, abs_int, gcd_int, max2_int, min2_int, int_int, int_bl, str_int, is_non, is_bl, isNonD, isi_ty, in_int, in_bool, in_str, in_tuple, in_list, in_dict, isiB, ty_non, ty_bl, ty_int, ty_str, ty_tup, ty_lst, ty_dk, ty_scr, len_tup, len_lst, len_scr, len_ref, len_dk, len_str, sl_tup, sl_lst, sl_scr, new_f, new_t, set_ref, app_ref, ext_ref, ty_ref, src_tup, src_lst, src_scr, ix_q0, ix_q1, aZip, aZipS, aEnum, zip_tt, zip_ll, tup_l, tup_t, tup_r, ex2t, ex2, ex2n, ex3, aLRg1, sum_ref, mul_lst, pop_ref, enum_ref, src_ref, gUnl, lsq_lst, aChain, aEnumX, enumX_t, enumX_l, mulX_tup, aTru, truD])
local macro_rules | `(tactic| walk_at "abw") => `(tactic| try simp [-Bool.exists_bool, -Bool.forall_bool, ↓exB, ↓iteB, aSeq, aAsg, aPar, aCB, aCons, aNil, aVar, aC, gName, aIfS, aTest, aNot, aAnd, aOr, aAndV, aOrV, aNotV, aIf, aOp, aUn, aRet, aTup, aLst, bodyK, Ab.start, List.replicate, aNext, aCall, aCallK, pick, aRaise, aRaise0, gSub, gTup, gNil, gCons, aExpr, aBM, aDk0, aLC, aSeqI, aSl, aPart, aNoPart, aRange1, aRange2, aFor, aYes, aPar3, wipeD, Tg.put, eqA_int, eqA_bl, eqA_nil, ix_tup, ix_lst, ix_scr, at_0, at_1, at_2, at_3, add_int, add_tup, add_str, add_lst, add_refl, mul_int, sub_int, fdiv_int, mod_int, pow_int, lt_int, le_int, gt_int, ge_int, neg_int, abs_int, gcd_int, max2_int, min2_int, int_int, int_bl, str_int, is_non, is_bl, isNonD, isi_ty, in_int, in_bool, in_str, in_tuple, in_list, in_dict, isiB, ty_non, ty_bl, ty_int, ty_str, ty_tup, ty_lst, ty_dk, ty_scr, len_tup, len_lst, len_scr, len_dk, len_str, sl_tup, sl_lst, sl_scr, new_f, new_t, app_ref, ext_ref, ty_ref, src_tup, src_lst, src_scr, ix_q0, ix_q1, aZip, aZipS, aEnum, zip_tt, zip_ll, tup_l, tup_t, tup_r, ex2t, ex2, ex2n, ex3, aLRg1, mul_lst, pop_ref, gUnl, lsq_lst, aChain, aEnumX, enumX_t, enumX_l, mulX_tup, aTru, truD])
open K02
/-! the law's sums -/
theorem rg_at {n j : Nat} {d : D} (h : (rgD 0 n)[j]? = some d) : d = .int (j : Int) ∧ j < n := by
  have hj := (List.getElem?_eq_some_iff.mp h).1
  rw [rg_len] at hj
  unfold rgD at h
  rw [List.getElem?_map, List.getElem?_range hj] at h
  simp at h
  exact ⟨h.symm, hj⟩
theorem sumF_succ {n : Nat} {h : Nat → Rat} : sumF (n + 1) h = sumF n h + h n := by
  unfold sumF
  rw [List.range_succ, List.map_append]
  unfold sumQ
  rw [List.foldl_append]
  rfl
theorem sumF_zero {h : Nat → Rat} : sumF 0 h = 0 := rfl
theorem _root_.K02.SumOk.sm {l : List Rat} (h : SumOk l) : SmQ 1000 (sumQ l) := by
  obtain ⟨h9, d, b, d0, hd, hb, hs, hg⟩ := h
  exact (Gr.sum d0 _ hg).sm hd hs
theorem DG.mono {n k : Nat} {f g : Nat → Rat} (h : DG n f g) (hk : k ≤ n) : DG k f g := by
  obtain ⟨n9, D, D0, hD, hd⟩ := h
  exact ⟨by omega, D, D0, hD, fun i hi => hd i (by omega)⟩
theorem DG.absSm {n : Nat} {f g : Nat → Rat} (h : DG n f g) {i : Nat} (hi : i < n) : SmQ 1000 (absQ (f i - g i)) ∧ SmQ 1000 (f i - g i) := by
  obtain ⟨D, D0, hD, hd⟩ := h.gap
  have s1 : D < 2 ^ 1000 := Nat.lt_of_le_of_lt hD (by decide)
  have s2 : D + D < 2 ^ 1000 := Nat.lt_of_le_of_lt (two20 hD (show 21 ≤ 900 by decide) (Nat.le_refl _)) (by decide)
  exact ⟨(Gr.absQ (hd i hi).2.2).sm s1 s2, (hd i hi).2.2.sm s1 s2⟩
def asp_lvary : ASp := fun ds st QA _ => ∃ n f g, ds = [VD n f, VD n g] ∧ DG n f g ∧ QA (qD (sumF n (fun i => absQ (f i - g i)) * half)) st
theorem range_at {n j : Nat} {h : Nat → D} {d : D} (e : ((List.range n).map h)[j]? = some d) : d = h j ∧ j < n := by
  rw [List.getElem?_map] at e
  obtain ⟨x, hx, e⟩ := Option.map_eq_some_iff.mp e
  have hj : j < n := by
    have := (List.getElem?_eq_some_iff.mp hx).1
    simpa using this
  rw [List.getElem?_range hj] at hx
  cases hx
  exact ⟨e.symm, hj⟩
theorem p_law_vary : ∀ ds st0 QA EA, ds.length = 2 → asp_lvary ds st0 QA EA → t_law_vary asp_sub asp_add asp_mul (bodyK st0 QA EA) ⟨Ab.start 6 ds, st0⟩ := by
  intro ds st0 QA EA hl ⟨n, f, g, e, hdg, h⟩
  subst e
  obtain ⟨D, D0, hD, hd⟩ := hdg.gap
  have n9 := hdg.1
  unfold t_law_vary
  walk_at "abw"
  rw [q_zero]
  refine ⟨sz2, _, zip_tt, ?_⟩
  show forL _ _ _ _ _
  rw [zipD_map]
  refine forL_ix (I := fun k S => ∃ w3 w4 w5, S = ⟨[some (VD n f), some (VD n g), some (qD (sumF k fun i => absQ (f i - g i))), w3, w4, w5], st0⟩) _ 0 (fun j d he K hK S hS => ?_) (fun S hS => ?_) _ ⟨none, none, none, rfl⟩
  · rw [Nat.zero_add] at *
    obtain ⟨e, hj⟩ := range_at he
    subst e
    obtain ⟨w3, w4, w5, e⟩ := hS
    subst e
    walk_at "abw"
    rw [run_sub (hd j hj).1 (hd j hj).2.1]
    walk_at "abw"
    refine ⟨sz2, ?_⟩
    rw [q_abs, run_add (hdg.mono (Nat.le_of_lt hj) |>.sumSm fun d b p => Gr.absQ) (hdg.absSm hj).1, ← sumF_succ (h := fun i => absQ (f i - g i))]
    exact hK _ ⟨_, _, _, rfl⟩
  · obtain ⟨w3, w4, w5, e⟩ := hS
    subst e
    rw [List.length_map, List.length_range, Nat.zero_add]
    walk_at "abw"
    refine ⟨sz2, ?_⟩
    rw [q_half, run_mul (hdg.sumSm fun d b p => Gr.absQ) sm_half]
    exact .inl h
def evQ (f g : Nat → Rat) (l : List Nat) : Rat := sumQ (l.map fun k => f k - g k)
theorem ev_ok {n : Nat} {f g : Nat → Rat} {l : List Nat} (h : DG n f g) (hl : l.length ≤ 9) (hk : ∀ k ∈ l, k < n) : SumOk (l.map fun k => f k - g k) := by
  obtain ⟨D, D0, hD, hd⟩ := h.gap
  refine sumOk_of (D := D) (b := D + D) (by simpa using hl) D0 (Nat.le_trans hD (Nat.pow_le_pow_right (by decide) (by decide))) (two20 hD (by decide) (by decide)) fun q hq => ?_
  obtain ⟨i, hi, e⟩ := List.mem_map.mp hq
  subst e
  exact (hd i (hk i hi)).2.2
def asp_lev : ASp := fun ds st QA _ => ∃ n f g, ∃ (l : List Nat) (m : D), ds = [VD n f, VD n g, m] ∧ (m = .lst (natL l) ∨ m = .tup (natL l)) ∧ DG n f g ∧ l.length ≤ 9 ∧ (∀ k ∈ l, k < n) ∧ QA (qD (evQ f g l)) st
theorem p_law_event : ∀ ds st0 QA EA, ds.length = 3 → asp_lev ds st0 QA EA → t_law_event asp_total asp_sub (bodyK st0 QA EA) ⟨Ab.start 4 ds, st0⟩ := by
  intro ds st0 QA EA hl ⟨n, f, g, l, m, e, hm, hdg, hl9, hk, h⟩
  subst e
  obtain ⟨D, D0, hD, hd⟩ := hdg.gap
  have main : compL (.nm 3) aYes (aCall 2 asp_sub (aCons (aOp ixA (aVar 0) (aVar 3)) (aCons (aOp ixA (aVar 1) (aVar 3)) aNil))) [3] [some (VD n f), some (VD n g), some m, none]
      (fun acc st => asp_total [.lst acc] st (fun d st => RetQ st0 QA d st) fun x st => RaiQ st0 EA x st) (natL l) [] st0 := by
    refine compM_ok (h := fun i : Nat => .int (i : Int)) (g := fun i => qD (f i - g i)) l [] (fun i hi => ?_) (by simpa using sz_le (by omega)) ?_
    · have hi := hk i hi
      refine ⟨_, rfl, fun A hA => ?_⟩
      walk_at "abw"
      refine ix_row (.inl rfl) hi ?_
      refine ix_row (.inl rfl) hi ?_
      rw [run_sub (hd i hi).1 (hd i hi).2.1]
      exact hA
    · rw [List.nil_append, show l.map (fun i => qD (f i - g i)) = (l.map fun i => f i - g i).map qD by simp]
      exact run_sum (ev_ok hdg hl9 hk) (.inl h)
  unfold t_law_event
  rcases hm with e | e
  · subst e
    walk_at "abw"
    exact main
  · subst e
    walk_at "abw"
    exact main
theorem run_lev {n : Nat} {f g : Nat → Rat} {l : List Nat} {m : D} {st : Store} {Q : D → Store → Prop} {X : XD → Store → Prop} (hm : m = .lst (natL l) ∨ m = .tup (natL l)) (hdg : DG n f g) (hl9 : l.length ≤ 9) (hk : ∀ k ∈ l, k < n) (q : Q (qD (evQ f g l)) st) : asp_lev [VD n f, VD n g, m] st Q X := ⟨n, f, g, l, m, rfl, hm, hdg, hl9, hk, q⟩
section
variable {st : Store} {Q : D → Store → Prop} {i j : Int}
theorem shl_int : shlA (.int i) (.int j) st Q = (L2.CPow i j ∧ Q (.int (i * 2 ^ j.toNat)) st) := rfl
theorem shr_int : shrA (.int i) (.int j) st Q = (0 ≤ j ∧ Q (.int (i / 2 ^ j.toNat)) st) := rfl
theorem and_int : andA (.int i) (.int j) st Q = Q (.int (Builtin.bitAnd i j)) st := propext ⟨fun h => h.2, fun h => ⟨True.intro, h⟩⟩
end
theorem bestQ_snoc {l : List Rat} {b x : Rat} : bestQ b (l ++ [x]) = if bestQ b l < x then x else bestQ b l := by
  unfold bestQ; simp
def asp_most : ASp := fun ds st QA _ => ∃ n f g, ds = [VD n f, VD n g] ∧ DG n f g ∧ QA (qD (sumF n fun k => posQ (f k - g k))) st
theorem p_law_greatest : ∀ ds st0 QA EA, ds.length = 2 → asp_most ds st0 QA EA → t_law_greatest asp_lev asp_below (bodyK st0 QA EA) ⟨Ab.start 6 ds, st0⟩ := by
  intro ds st0 QA EA hl ⟨n, f, g, e, hdg, h⟩
  subst e
  have n9 := hdg.1
  have p9 : 2 ^ n ≤ 512 := Nat.pow_le_pow_right (show 0 < 2 by decide) n9
  rw [← greatest_eq n fun k => f k - g k] at h
  have evs : ∀ m : Nat, SmQ 1000 (evQ f g ((List.range n).filter fun k => m.testBit k)) := fun m => (ev_ok hdg (Nat.le_trans (List.length_filter_le _ _) (by simpa using n9)) fun k hk => List.mem_range.mp (List.mem_filter.mp hk).1).sm
  unfold t_law_greatest
  walk_at "abw"
  rw [q_zero]
  refine ⟨sz2, len_row (.inl rfl) ?_⟩
  rw [shl_int]
  refine ⟨⟨by omega, by omega, by decide⟩, ?_⟩
  have e2 : (1 : Int) * 2 ^ (n : Int).toNat = ((2 ^ n : Nat) : Int) := by rw [Int.toNat_natCast, Int.one_mul]; norm_cast
  have lo : (-4611686018427387904 : Int) ≤ ((2 ^ n : Nat) : Int) := Int.le_trans (by decide) (Int.natCast_nonneg _)
  have hi : ((2 ^ n : Nat) : Int) < 4611686018427387904 := Int.lt_of_le_of_lt (Int.ofNat_le.mpr p9) (by decide)
  refine ⟨((2 ^ n : Nat) : Int), congrArg D.int e2, lo, hi, ?_⟩
  rw [Int.toNat_natCast]
  have ev0 : ∀ k, SmQ 1000 (bestQ 0 ((List.range k).map fun m => evQ f g ((List.range n).filter fun k => m.testBit k))) := fun k => sm_best ⟨(by show (0 : Nat) < 2 ^ 1000; decide), (by show (1 : Nat) < 2 ^ 1000; decide)⟩ fun q hq => by
    obtain ⟨m, _, e⟩ := List.mem_map.mp hq
    subst e
    exact evs m
  refine forL_ix (I := fun k S => ∃ w3 w4 w5, S = ⟨[some (VD n f), some (VD n g), some (qD (bestQ 0 ((List.range k).map fun m => evQ f g ((List.range n).filter fun k => m.testBit k)))), w3, w4, w5], st0⟩) _ 0 (fun j d he K hK S hS => ?_) (fun S hS => ?_) _ ⟨none, none, none, rfl⟩
  · rw [Nat.zero_add] at *
    obtain ⟨e, hj⟩ := rg_at he
    subst e
    obtain ⟨w3, w4, w5, e⟩ := hS
    subst e
    walk_at "abw"
    refine len_row (.inl rfl) ?_
    refine ⟨_, rfl, by omega, by omega, ?_⟩
    rw [Int.toNat_natCast, rg_nat]
    refine compF_ok (α := Nat) (h := fun i : Nat => .int (i : Int)) (g := fun i : Nat => .int (i : Int)) (p := fun k => j.testBit k) (List.range n) [] (fun i hi => ?_) (by simpa using sz_le (by omega)) ?_
    · have hi := List.mem_range.mp hi
      refine ⟨_, rfl, fun A B hA hB => ?_⟩
      walk_at "abw"
      rw [shr_int]
      refine ⟨by omega, ?_⟩
      rw [and_int, Int.toNat_natCast, bit_and]
      cases hb : j.testBit i with
      | true => exact ⟨true, rfl, fun _ => hA hb, fun z => by cases z⟩
      | false => exact ⟨false, rfl, fun z => (by cases z), fun _ => hB hb⟩
    · refine run_lev (.inl rfl) hdg (Nat.le_trans (List.length_filter_le _ _) (by simpa using n9)) (fun k hk => List.mem_range.mp (List.mem_filter.mp hk).1) ?_
      walk_at "abw"
      rw [run_below' (ev0 j) (evs j)]
      walk_at "abw"
      have e3 : bestQ 0 ((List.range (j + 1)).map fun m => evQ f g ((List.range n).filter fun k => m.testBit k)) = if bestQ 0 ((List.range j).map fun m => evQ f g ((List.range n).filter fun k => m.testBit k)) < evQ f g ((List.range n).filter fun k => j.testBit k) then evQ f g ((List.range n).filter fun k => j.testBit k) else bestQ 0 ((List.range j).map fun m => evQ f g ((List.range n).filter fun k => m.testBit k)) := by
        rw [List.range_succ, List.map_append]
        exact bestQ_snoc
      refine ⟨fun h => hK _ ⟨some (.int j), some (qD (evQ f g ((List.range n).filter fun k => j.testBit k))), w5, ?_⟩, fun h => hK _ ⟨some (.int j), some (qD (evQ f g ((List.range n).filter fun k => j.testBit k))), w5, ?_⟩⟩
      · rw [e3, if_pos h]
      · rw [e3, if_neg h]
  · obtain ⟨w3, w4, w5, e⟩ := hS
    subst e
    rw [rg_len, Nat.zero_add]
    walk_at "abw"
    exact .inl h
end K34
set_option Elab.async false
set_option linter.all false
set_option maxRecDepth 100000
set_option autoImplicit false
namespace K34
open PySem Ab K00
local macro_rules | `(tactic| walk_at "abq") => `(tactic| try simp [-Bool.exists_bool, -Bool.forall_bool, ↓exB, ↓iteB, aSeq, aAsg, aPar, aCB, aCons, aNil, aVar, aC, gName, aIfS, aTest, aNot, aAnd, aOr, aAndV, aOrV, aNotV, aIf, aOp, aUn, aRet, aTup, aLst, bodyK, Ab.start, List.replicate, aNext, aCall, aCallK, pick, aRaise, aRaise0, gSub, gTup, gNil, gCons, aExpr, aBM, aDk0, aLC, aSeqI, aSl, aPart, aNoPart, aRange1, aRange2, aFor, aYes, aPar3, wipeD, Tg.put, eqA_int, eqA_bl, eqA_nil, ix_tup, ix_lst, ix_scr, ix_ref, at_0, at_1, at_2, at_3, add_int, add_tup, add_str, add_lst, add_refl, mul_int, sub_int, fdiv_int, mod_int, pow_int, lt_int, le_int, gt_int, ge_int, neg_int, abs_int, gcd_int, max2_int, min2_int, int_int, int_bl, str_int, is_non, is_bl, isNonD, isi_ty, in_int, in_bool, in_str, in_tuple, in_list, in_dict, isiB, ty_non, ty_bl, ty_int, ty_str, ty_tup, ty_lst, ty_dk, ty_scr, len_tup, len_lst, len_scr, len_ref, len_dk, len_str, sl_tup, sl_lst, sl_scr, new_f, new_t, set_ref, app_ref, ext_ref, ty_ref, src_tup, src_lst, src_scr, ix_q0, ix_q1, aZip, aZipS, aEnum, zip_tt, zip_ll, tup_l, tup_t, tup_r, ex2t, ex2, ex2n, ex3, aLRg1, sum_ref, mul_lst, pop_ref, enum_ref, src_ref, gUnl, lsq_lst, aChain, aEnumX, enumX_t, enumX_l, mulX_tup, aTru, truD])
local macro_rules | `(tactic| walk_at "abw") => `(tactic| try simp [-Bool.exists_bool, -Bool.forall_bool, ↓exB, ↓iteB, aSeq, aAsg, aPar, aCB, aCons, aNil, aVar, aC, gName, aIfS, aTest, aNot, aAnd, aOr, aAndV, aOrV, aNotV, aIf, aOp, aUn, aRet, aTup, aLst, bodyK, Ab.start, List.replicate, aNext, aCall, aCallK, pick, aRaise, aRaise0, gSub, gTup, gNil, gCons, aExpr, aBM, aDk0, aLC, aSeqI, aSl, aPart, aNoPart, aRange1, aRange2, aFor, aYes, aPar3, wipeD, Tg.put, eqA_int, eqA_bl, eqA_nil, ix_tup, ix_lst, ix_scr, at_0, at_1, at_2, at_3, add_int, add_tup, add_str, add_lst, add_refl, mul_int, sub_int, fdiv_int, mod_int, pow_int, lt_int, le_int, gt_int, ge_int, neg_int, abs_int, gcd_int, max2_int, min2_int, int_int, int_bl, str_int, is_non, is_bl, isNonD, isi_ty, in_int, in_bool, in_str, in_tuple, in_list, in_dict, isiB, ty_non, ty_bl, ty_int, ty_str, ty_tup, ty_lst, ty_dk, ty_scr, len_tup, len_lst, len_scr, len_dk, len_str, sl_tup, sl_lst, sl_scr, new_f, new_t, app_ref, ext_ref, ty_ref, src_tup, src_lst, src_scr, ix_q0, ix_q1, aZip, aZipS, aEnum, zip_tt, zip_ll, tup_l, tup_t, tup_r, ex2t, ex2, ex2n, ex3, aLRg1, mul_lst, pop_ref, gUnl, lsq_lst, aChain, aEnumX, enumX_t, enumX_l, mulX_tup, aTru, truD])
open K02
/-! the greatest 1 - a/b -/
theorem apart_succ {k : Nat} {f g : Nat → Rat} : apartL (k + 1) f g = apartL k f g ++ if g k = 0 then [] else [1 - f k / g k] := by
  unfold apartL
  rw [List.range_succ, List.filter_append, List.map_append]
  by_cases h : g k = 0
  · rw [if_pos h, List.filter_cons_of_neg (by simp [h])]; rfl
  · rw [if_neg h, List.filter_cons_of_pos (by simp [h])]; rfl
theorem maxL_snoc {l : List Rat} {x : Rat} (h : l ≠ []) : maxL (l ++ [x]) = if maxL l < x then x else maxL l := by
  cases l with
  | nil => exact absurd rfl h
  | cons y r =>
    rw [List.cons_append, maxL_cons, maxL_cons, bestQ_snoc]
def apD (l : List Rat) : D := if l = [] then .non else qD (maxL l)
theorem apD_one {x : Rat} : apD [x] = qD x := by unfold apD; rw [if_neg (by simp), maxL_cons]; rfl
def asp_apart : ASp := fun ds st QA _ => ∃ n f g, ds = [VD n f, VD n g] ∧ DG n f g ∧ (∀ i, i < n → 0 ≤ g i) ∧ QA (apD (apartL n f g)) st
theorem num_pos' {q : Rat} (h : 0 ≤ q) : (0 < q.num) ↔ q ≠ 0 := by
  have h1 := Rat.num_nonneg.mpr h
  constructor
  · intro h2 z; subst z; exact absurd h2 (by decide)
  · intro h2
    have : q.num ≠ 0 := fun z => h2 (Rat.num_eq_zero.mp z)
    omega
theorem sm_max {l : List Rat} (h : ∀ q ∈ l, SmQ 1000 q) : SmQ 1000 (maxL l) := by
  cases l with
  | nil => exact ⟨(by show (0 : Nat) < 2 ^ 1000; decide), (by show (1 : Nat) < 2 ^ 1000; decide)⟩
  | cons x r => rw [maxL_cons]; exact sm_best (h x (by simp)) fun q hq => h q (by simp [hq])
theorem sm_apL {n : Nat} {f g : Nat → Rat} (h : DG n f g) {k : Nat} (hk : k ≤ n) : ∀ q ∈ apartL k f g, SmQ 1000 q := fun q hq => by
  obtain ⟨i, hi, e⟩ := List.mem_map.mp hq
  obtain ⟨h1, h2⟩ := List.mem_filter.mp hi
  subst e
  have := List.mem_range.mp h1
  exact (sm_apart h (i := i) (by omega) (by simpa using h2)).2
theorem p_law_apart : ∀ ds st0 QA EA, ds.length = 2 → asp_apart ds st0 QA EA → t_law_apart asp_sub asp_div asp_below (bodyK st0 QA EA) ⟨Ab.start 6 ds, st0⟩ := by
  intro ds st0 QA EA hl ⟨n, f, g, e, hdg, g0, h⟩
  subst e
  obtain ⟨D, D0, hD, hd⟩ := hdg.gap
  have n9 := hdg.1
  unfold t_law_apart
  walk_at "abw"
  refine ⟨_, zip_tt, ?_⟩
  show forL _ _ _ _ _
  rw [zipD_map]
  refine forL_ix (I := fun k S => ∃ w3 w4 w5, S = ⟨[some (VD n f), some (VD n g), some (apD (apartL k f g)), w3, w4, w5], st0⟩) _ 0 (fun j d he K hK S hS => ?_) (fun S hS => ?_) _ ⟨none, none, none, rfl⟩
  · rw [Nat.zero_add] at *
    obtain ⟨e, hj⟩ := range_at he
    subst e
    obtain ⟨w3, w4, w5, e⟩ := hS
    subst e
    walk_at "abw"
    rw [num_pos' (g0 j hj)]
    refine ⟨fun hg0 => ⟨sz2, ?_⟩, fun hz => ?_⟩
    · have hs := sm_apart hdg hj hg0
      rw [run_div (hd j hj).1 (hd j hj).2.1 hg0, q_one, run_sub sm_one hs.1]
      have e2 : apartL (j + 1) f g = apartL j f g ++ [1 - f j / g j] := by rw [apart_succ, if_neg hg0]
      have ne : apartL j f g ++ [1 - f j / g j] ≠ [] := by simp
      walk_at "abw"
      by_cases hn : apartL j f g = []
      · refine ⟨fun _ => hK _ ⟨some (qD (f j)), some (qD (g j)), some (qD (1 - f j / g j)), by rw [e2, hn, List.nil_append, apD_one]⟩, fun hnn => ?_⟩
        rw [show apD (apartL j f g) = .non by rw [hn]; rfl] at hnn
        cases hnn
      · have e3 : apD (apartL j f g) = qD (maxL (apartL j f g)) := by unfold apD; rw [if_neg hn]
        rw [e3]
        refine ⟨fun hnn => (by cases hnn), fun _ => ?_⟩
        rw [run_below' (sm_max (sm_apL hdg (Nat.le_of_lt hj))) hs.2]
        have e4 : apD (apartL (j + 1) f g) = qD (if maxL (apartL j f g) < 1 - f j / g j then 1 - f j / g j else maxL (apartL j f g)) := by
          rw [e2]; unfold apD; rw [if_neg ne, maxL_snoc hn]
        walk_at "abw"
        refine ⟨fun h => hK _ ⟨some (qD (f j)), some (qD (g j)), some (qD (1 - f j / g j)), ?_⟩, fun h => hK _ ⟨some (qD (f j)), some (qD (g j)), some (qD (1 - f j / g j)), ?_⟩⟩
        · rw [e4, if_pos h]
        · rw [e4, if_neg h]
    · have hz : g j = 0 := by
        by_cases h : g j = 0
        · exact h
        · exact absurd ((num_pos' (g0 j hj)).mpr h) (by omega)
      exact hK _ ⟨_, _, _, by rw [apart_succ, if_pos hz, List.append_nil]⟩
  · obtain ⟨w3, w4, w5, e⟩ := hS
    subst e
    rw [List.length_map, List.length_range, Nat.zero_add]
    walk_at "abw"
    exact .inl h
/-! a set of states -/
def asp_set : ASp := fun ds st QA _ => ∃ (n : Nat) (l : List Nat), ds = [.int n, .tup (natL l)] ∧ l.length ≤ 9 ∧ (∀ k ∈ l, k < n) ∧ l.Pairwise (· < ·) ∧ QA (.bl true) st
theorem natL_at {l : List Nat} {i x : Nat} (h : l[i]? = some x) : L2.atI (natL l) (i : Int) = some (.int (x : Int)) := by
  unfold natL
  rw [at_nat, List.getElem?_map, h]; rfl
theorem p_law_is_set : ∀ ds st0 QA EA, ds.length = 2 → asp_set ds st0 QA EA → t_law_is_set (bodyK st0 QA EA) ⟨Ab.start 3 ds, st0⟩ := by
  intro ds st0 QA EA hl ⟨n, l, e, l9, hk, hp, h⟩
  subst e
  unfold t_law_is_set
  walk_at "abw"
  refine compF_ok (α := Nat) (h := fun i : Nat => .int (i : Int)) (g := fun i : Nat => .int (i : Int)) (p := fun _ => false) l [] (fun i hi => ?_) (by simpa using sz_le (by omega)) ?_
  · have hi := hk i hi
    refine ⟨_, rfl, fun A B hA hB => ?_⟩
    walk_at "abw"
    exact ⟨fun h => by omega, fun _ => hB rfl⟩
  · rw [show l.filter (fun _ => false) = [] by simp]
    walk_at "abw"
    rw [natL_len]
    refine ⟨by omega, ?_⟩
    refine compF_ok (α := Nat) (h := fun i : Nat => .int (1 + (i : Int))) (g := fun i : Nat => .int (i : Int)) (p := fun _ => false) (List.range (l.length - 1)) [] (fun i hi => ?_) (by have := sz_le (show l.length - 1 ≤ 100 by omega); simpa using this) ?_
    · have hi := List.mem_range.mp hi
      have h1 : l[i]? = some l[i] := List.getElem?_eq_getElem (by omega)
      have h2 : l[i + 1]? = some l[i + 1] := List.getElem?_eq_getElem (by omega)
      have hlt : l[i] < l[i + 1] := List.pairwise_iff_getElem.mp hp i (i + 1) (by omega) (by omega) (by omega)
      refine ⟨_, rfl, fun A B hA hB => ?_⟩
      walk_at "abw"
      rw [show (1 : Int) + i - 1 = (i : Int) by omega, show (1 : Int) + i = ((i + 1 : Nat) : Int) by omega]
      refine ⟨_, natL_at h1, _, natL_at h2, ?_⟩
      walk_at "abw"
      exact ⟨fun h => by omega, fun _ => hB rfl⟩
    · rw [show (List.range (l.length - 1)).filter (fun _ => false) = [] by simp]
      walk_at "abw"
      exact .inl h
/-! asked: told or refused -/
def Rt (t : Int) : Nat → (Nat → Rat) → (Nat → Rat) → D := if t = 0 then R0 else if t = 1 then R1 else R2
def asp_asked (C : Addr) : ASp := fun ds st QA _ => ∃ (t : Int) (x y : D) (b : Bool), ds = [.int t, x, y, .bl b] ∧ 0 ≤ t ∧ t < 3 ∧ Chk C (Rt t) [x, y] st QA fun e st => ∃ v, e = ⟨.ref C, [("given", v)]⟩ ∧ QA (.lst [.str "refused", v]) st
theorem p_law_asked {C : Addr} {m : Value → Value → Option Bool} (m1 : m (.ref C) (.ref C) = some true) : ∀ ds st0 QA EA, ds.length = 4 → asp_asked C ds st0 QA EA → t_law_asked (asp_variation C) (asp_event C) (asp_separation C) C m (bodyK st0 QA EA) ⟨Ab.start 5 ds, st0⟩ := by
  intro ds st0 QA EA hl ⟨t, x, y, b, e, t0, t3, h⟩
  subst e
  have caught : ∀ (e : XD) (σ : List (Option D)), (∃ v, e = ⟨.ref C, [("given", v)]⟩ ∧ QA (.lst [.str "refused", v]) st0) →
      hdl m (bodyK st0 QA EA) [(.ref C, some 4, fun a cls dd => (aRet (aLst false (aCons (aC (.str "refused")) (aCons (aXf a cls dd C "given" (aVar 4)) aNil)))))] e ⟨[some (.int t), some x, some y, some (.bl b), none], st0⟩ := fun e σ ⟨v, he, q⟩ => by
    subst he
    refine ⟨true, m1, fun _ a dd hd => ?_, fun z => by cases z⟩
    simp only [suiteA, aXf, offK]
    walk_at "abw"
    exact ⟨_, rfl, _, v, rfl, rfl, by simp [List.lookup], sz2, .inl q⟩
  unfold t_law_asked aTry
  unfold Rt at h
  unfold bodyK at caught
  have c := fun e => caught e
  clear caught
  walk_at "abw"
  refine ⟨fun ht => ?_, fun ht => ⟨fun ht1 => ?_, fun ht1 => ?_⟩⟩
  · rw [if_pos ht] at h
    exact ⟨fun _ => chk_then h (fun n f g _ _ _ q => .inl q) fun e q => c e [] q, fun _ => chk_then h (fun n f g _ _ _ q => .inl q) fun e q => c e [] q⟩
  · rw [if_neg ht, if_pos ht1] at h
    exact ⟨fun _ => chk_then h (fun n f g _ _ _ q => .inl q) fun e q => c e [] q, fun _ => chk_then h (fun n f g _ _ _ q => .inl q) fun e q => c e [] q⟩
  · rw [if_neg ht, if_neg ht1] at h
    exact ⟨fun _ => chk_then h (fun n f g _ _ _ q => .inl q) fun e q => c e [] q, fun _ => chk_then h (fun n f g _ _ _ q => .inl q) fun e q => c e [] q⟩
end K34
set_option Elab.async false
set_option linter.all false
set_option maxRecDepth 100000
set_option autoImplicit false
namespace K34
open PySem Ab K00
local macro_rules | `(tactic| walk_at "abq") => `(tactic| try simp [-Bool.exists_bool, -Bool.forall_bool, ↓exB, ↓iteB, aSeq, aAsg, aPar, aCB, aCons, aNil, aVar, aC, gName, aIfS, aTest, aNot, aAnd, aOr, aAndV, aOrV, aNotV, aIf, aOp, aUn, aRet, aTup, aLst, bodyK, Ab.start, List.replicate, aNext, aCall, aCallK, pick, aRaise, aRaise0, gSub, gTup, gNil, gCons, aExpr, aBM, aDk0, aLC, aSeqI, aSl, aPart, aNoPart, aRange1, aRange2, aFor, aYes, aPar3, wipeD, Tg.put, eqA_int, eqA_bl, eqA_nil, ix_tup, ix_lst, ix_scr, ix_ref, at_0, at_1, at_2, at_3, add_int, add_tup, add_str, add_lst, add_refl, mul_int, sub_int, fdiv_int, mod_int, pow_int, lt_int, le_int, gt_int, ge_int, neg_int, abs_int, gcd_int, max2_int, min2_int, int_int, int_bl, str_int, is_non, is_bl, isNonD, isi_ty, in_int, in_bool, in_str, in_tuple, in_list, in_dict, isiB, ty_non, ty_bl, ty_int, ty_str, ty_tup, ty_lst, ty_dk, ty_scr, len_tup, len_lst, len_scr, len_ref, len_dk, len_str, sl_tup, sl_lst, sl_scr, new_f, new_t, set_ref, app_ref, ext_ref, ty_ref, src_tup, src_lst, src_scr, ix_q0, ix_q1, aZip, aZipS, aEnum, zip_tt, zip_ll, tup_l, tup_t, tup_r, ex2t, ex2, ex2n, ex3, aLRg1, sum_ref, mul_lst, pop_ref, enum_ref, src_ref, gUnl, lsq_lst, aChain, aEnumX, enumX_t, enumX_l, mulX_tup, aTru, truD])
local macro_rules | `(tactic| walk_at "abw") => `(tactic| try simp [-Bool.exists_bool, -Bool.forall_bool, ↓exB, ↓iteB, aSeq, aAsg, aPar, aCB, aCons, aNil, aVar, aC, gName, aIfS, aTest, aNot, aAnd, aOr, aAndV, aOrV, aNotV, aIf, aOp, aUn, aRet, aTup, aLst, bodyK, Ab.start, List.replicate, aNext, aCall, aCallK, pick, aRaise, aRaise0, gSub, gTup, gNil, gCons, aExpr, aBM, aDk0, aLC, aSeqI, aSl, aPart, aNoPart, aRange1, aRange2, aFor, aYes, aPar3, wipeD, Tg.put, eqA_int, eqA_bl, eqA_nil, ix_tup, ix_lst, ix_scr, at_0, at_1, at_2, at_3, add_int, add_tup, add_str, add_lst, add_refl, mul_int, sub_int, fdiv_int, mod_int, pow_int, lt_int, le_int, gt_int, ge_int, neg_int, abs_int, gcd_int, max2_int, min2_int, int_int, int_bl, str_int, is_non, is_bl, isNonD, isi_ty, in_int, in_bool, in_str, in_tuple, in_list, in_dict, isiB, ty_non, ty_bl, ty_int, ty_str, ty_tup, ty_lst, ty_dk, ty_scr, len_tup, len_lst, len_scr, len_dk, len_str, sl_tup, sl_lst, sl_scr, new_f, new_t, app_ref, ext_ref, ty_ref, src_tup, src_lst, src_scr, ix_q0, ix_q1, aZip, aZipS, aEnum, zip_tt, zip_ll, tup_l, tup_t, tup_r, ex2t, ex2, ex2n, ex3, aLRg1, mul_lst, pop_ref, gUnl, lsq_lst, aChain, aEnumX, enumX_t, enumX_l, mulX_tup, aTru, truD])
open K02
/-! drawn pairs -/
def GW (n : Nat) (ws : List Int) : Prop := ws.length = n ∧ (∀ w ∈ ws, 0 ≤ w ∧ w ≤ 12) ∧ 0 < ws.sum
def rowF (ws : List Int) (i : Nat) : Rat := Rat.divInt (ws.getD i 0) ws.sum
def shD (ws : List Int) : D := .tup (ws.map fun w => qD (Rat.divInt w ws.sum))
theorem shD_VD {n : Nat} {ws : List Int} (h : ws.length = n) : shD ws = VD n (rowF ws) := by
  unfold shD VD rowF
  congr 1
  generalize ws.sum = T
  conv => lhs; rw [map_range ws 0, List.map_map, h]
  rfl
theorem sum_div {T : Int} (hT : T ≠ 0) : ∀ ws : List Int, sumQ (ws.map fun w => Rat.divInt w T) = Rat.divInt ws.sum T
  | [] => by simp [sumQ_nil]
  | w :: r => by
    rw [List.map_cons, sumQ_cons, sum_div hT r, Rat.divInt_add_divInt _ _ hT hT, ← Int.add_mul, Rat.divInt_mul_right hT, List.sum_cons]
theorem sum_le' : ∀ {r : List Int} {B : Int}, (∀ w ∈ r, w ≤ B) → r.sum ≤ B * r.length
  | [], _, _ => by simp
  | y :: r, B, h => by
    rw [List.sum_cons, List.length_cons]
    have := sum_le' (r := r) (B := B) fun w hw => h w (by simp [hw])
    have := h y (by simp)
    have e : B * ((r.length + 1 : Nat) : Int) = B * (r.length : Int) + B := by rw [Int.natCast_add, Int.mul_add]; simp
    omega
theorem gw_dis {n : Nat} {ws : List Int} (n0 : 0 < n) (n7 : n ≤ 7) (h : GW n ws) : Dis n (rowF ws) := by
  obtain ⟨hl, hb, hp⟩ := h
  have hT : ws.sum ≠ 0 := by omega
  have hle := sum_le' (r := ws) (B := 12) fun w hw => (hb w hw).2
  have at_ : ∀ i, i < n → ws[i]? = some (ws.getD i 0) := fun i hi => by
    rw [List.getD_eq_getElem?_getD, List.getElem?_eq_getElem (by omega)]; rfl
  refine ⟨n0, n7, fun i hi => ?_, ?_, ws.sum.toNat, by omega, by omega, fun i hi => ?_⟩
  · have := (hb _ (List.mem_of_getElem? (at_ i hi))).1
    unfold rowF
    rw [Rat.divInt_nonneg_iff_of_pos_right hp]
    exact this
  · have e : (List.range n).map (rowF ws) = ws.map fun w => Rat.divInt w ws.sum := by
      conv => rhs; rw [map_range ws 0]
      rw [List.map_map, hl]
      unfold rowF
      rw [← hl, ← map_range ws 0]
      rfl
    unfold sumF
    rw [e, sum_div hT, Rat.divInt_self' hT]
  · have h1 := hb _ (List.mem_of_getElem? (at_ i hi))
    have h2 := sum_ge (fun w hw => (hb w hw).1) (at_ i hi)
    refine ⟨by omega, ws.getD i 0, by omega, ?_⟩
    unfold rowF
    rw [Int.toNat_of_nonneg (by omega)]
def asp_lpair : ASp := fun ds st QA _ => ∃ n, ∃ size : Nat, ∃ N, ds = [.ref n, .int size] ∧ BoxAt st n N ∧ N ≤ 2 ^ 30 ∧ 0 < size ∧ size ≤ 7 ∧ ∀ (ws vs : List Int) st', GW size ws → GW size vs → BoxTo st n (N + 200) st' → QA (.tup [shD ws, shD vs]) st'
theorem noRef_sh {ws : List Int} : noRef (shD ws) = true := by
  unfold shD
  rw [noRef]
  exact noRefs_of fun d hd => by
    obtain ⟨w, _, e⟩ := List.mem_map.mp hd
    rw [← e]; simp [qD, noRef, noRefs]
theorem ret_val {st0 st1 Z : Store} {QA : D → Store → Prop} {n : Nat} {N : Int} {d : D} (b : BoxTo st0 n N st1) (h : noRef d = true) (q : QA d st1) : RetQ st0 QA d (st1 ++ Z) :=
  .inr ⟨d, fz_self h, ⟨by rw [List.length_append, b.len]; omega, fun m hm => by
    rw [List.getElem?_append_left (by rw [b.len]; exact hm)]
    obtain ⟨a, b', c, d, e, _⟩ := b
    subst e
    by_cases e : n = m
    · subst e
      exact .inr ⟨_, List.getElem?_set_self hm, fzO_self rfl⟩
    · exact .inl (List.getElem?_set_ne e)⟩, by rw [← b.len, List.take_left]; exact q⟩
section
variable {st0 st1 Y : Store} {Q : D → Store → Prop} {X : XD → Store → Prop} {n size : Nat} {N : Int}
theorem sm_s {i : Int} (h0 : -1000 ≤ i) (h1 : i ≤ 1000) : Sm 4000 i := (show Sm 10 i by unfold Sm; omega).mono (by decide)
/-- weights, then shares of them -/
theorem run_shares {d : D} {ws : List Int} {st : Store} (hw : GW size ws) (hs : size ≤ 7) (hd : d = .lst (ws.map .int) ∨ ∃ n, d = .ref n ∧ st[n]? = some (.lst (ws.map .int))) (q : Q (shD ws) st) : asp_shares [d] st Q X := by
  have hle := sum_le' (r := ws) (B := 12) fun w hw' => (hw.2.1 w hw').2
  have hl := hw.1
  have hp := hw.2.2
  exact ⟨d, ws, rfl, hd, by omega, sm_s (by omega) (by omega), by omega, q⟩
theorem run_weights {o : Int} (hn : n < st0.length) (b : BoxTo st0 n N st1) (hN : N ≤ 2 ^ 36) (s0 : 0 < size) (hs : size ≤ 7) (o0 : 0 < o) (o9 : o ≤ 100)
    (q : ∀ ws st2, GW size ws → BoxTo st0 n (N + 20) st2 → Q (.ref (st0.length + Y.length)) (st2 ++ (Y ++ [.lst (ws.map .int)]))) : asp_weights [.ref n, .int size, .int o] (st1 ++ Y) Q X := by
  obtain ⟨k, rfl⟩ := Int.eq_ofNat_of_zero_le (Int.le_of_lt o0)
  refine ⟨n, size, k, N, rfl, (b.at hn).app _, hN, s0, by omega, by omega, by omega, fun ws st2 h1 h2 h3 b2 => ?_⟩
  obtain ⟨st3, e, b3⟩ := b2.app (by rw [b.len]; exact hn)
  subst e
  rw [List.length_append, b.len, List.append_assoc]
  exact q ws st3 ⟨h1, fun w hw => by have := h2 w hw; omega, h3⟩ ((b.trans b3).mono (by omega))
theorem run_weightsC {o : Int} (hn : n < st0.length) (b : BoxTo st0 n N st1) (hN : N ≤ 2 ^ 36) (s0 : 0 < size) (hs : size ≤ 7) (o0 : 0 < o) (o9 : o ≤ 100)
    (q : ∀ ws st2, GW size ws → BoxTo st0 n (N + 20) st2 → Q (.ref st0.length) (st2 ++ [.lst (ws.map .int)])) : asp_weights [.ref n, .int size, .int o] st1 Q X := by
  have := run_weights (Y := []) (Q := Q) (X := X) hn b hN s0 hs o0 o9 (fun ws st2 h b => by simpa using q ws st2 h b)
  simpa using this
end
theorem ite01 {p : Prop} [Decidable p] : (0 : Int) ≤ (if p then 1 else 0) ∧ (if p then 1 else 0 : Int) ≤ 1 := by split <;> omega
theorem fl12 {q : Rat} (h0 : 0 ≤ q) (h1 : q ≤ 1) : 0 ≤ (12 * q.num).fdiv q.den ∧ (12 * q.num).fdiv q.den ≤ 12 := by
  have d0 : (0 : Int) < q.den := by have := q.den_pos; omega
  have n0 := Rat.num_nonneg.mpr h0
  have n1 : q.num ≤ q.den := by rw [Rat.le_iff] at h1; simpa using h1
  rw [Int.fdiv_eq_ediv_of_nonneg _ (Int.le_of_lt d0)]
  refine ⟨Int.ediv_nonneg (by omega) (Int.le_of_lt d0), ?_⟩
  have : 12 * q.num / q.den ≤ 12 * q.den / q.den := Int.ediv_le_ediv d0 (by omega)
  rwa [Int.mul_ediv_cancel _ (by omega)] at this
theorem vec_int {tg : Tg} {te : AE} {vs : List Nat} {σ0 : List (Option D)} {Q : List D → Store → Prop} {st0 st1 Y : Store} {n size : Nat} {N : Int} {P : Nat → Int → Prop} (hs : size ≤ 9) (b : BoxTo st0 n N st1)
    (step : ∀ (j : Nat) st, j < size → BoxTo st0 n (N + j) st → ∃ σ1, Tg.put tg (.int (j : Int)) (wipeD σ0 vs) = some σ1 ∧ ∀ A : D → Store → Prop, (∀ x st', 0 ≤ x → x ≤ 5 → P j x → BoxTo st0 n (N + j + 1) st' → A (.int x) (st' ++ Y)) → te ⟨σ1, st ++ Y⟩ (fun y S3 => A y S3.st) noX)
    (q : ∀ (l : List Int) st', l.length = size → (∀ w ∈ l, 0 ≤ w ∧ w ≤ 5) → (∀ (k : Nat) x, l[k]? = some x → P k x) → BoxTo st0 n (N + size) st' → Q (l.map .int) (st' ++ Y)) : compL tg aYes te vs σ0 Q (rgD 0 size) [] (st1 ++ Y) := by
  refine compI_ok (I := fun acc st => ∃ st' l, st = st' ++ Y ∧ BoxTo st0 n (N + acc.length) st' ∧ acc = l.map .int ∧ (∀ w ∈ l, 0 ≤ w ∧ w ≤ 5) ∧ ∀ (k : Nat) x, l[k]? = some x → P k x) _ [] _ (fun j d hd acc st hj I => ?_) (by simpa [rg_len] using sz_le (by omega)) (fun acc st hj I => ?_) ⟨st1, [], rfl, by simpa using b, rfl, by simp, by simp⟩
  · obtain ⟨e, hjs⟩ := rg_at hd
    subst e
    obtain ⟨st', l, e, b', ea, hl, hP⟩ := I
    subst e
    have hja : acc.length = j := by rw [hj]; simp
    have hlj : l.length = j := by rw [← hja, ea]; simp
    rw [hja] at b'
    obtain ⟨σ1, h1, h2⟩ := step j st' hjs b'
    refine ⟨σ1, h1, fun A hA => h2 A fun x st2 x0 x5 px b2 => hA _ _ ⟨st2, l ++ [x], rfl, b2.mono (by rw [List.length_append, hja]; simp; omega), by rw [ea]; simp, fun w hw => ?_, fun k y hy => ?_⟩⟩
    · rcases List.mem_append.mp hw with z | z
      · exact hl w z
      · rw [List.mem_singleton.mp z]; exact ⟨x0, x5⟩
    · by_cases hk : k < l.length
      · rw [List.getElem?_append_left hk] at hy
        exact hP k y hy
      · have hk2 := (List.getElem?_eq_some_iff.mp hy).1
        rw [List.length_append, List.length_singleton] at hk2
        have : k = j := by omega
        subst this
        rw [← hlj, List.getElem?_append_right (Nat.le_refl _), Nat.sub_self] at hy
        simp at hy
        subst hy
        exact px
  · obtain ⟨st', l, e, b', ea, hl, hP⟩ := I
    subst e
    have hja : acc.length = size := by rw [hj]; simp [rg_len]
    rw [hja] at b'
    rw [ea]
    exact q l st' (by rw [← hja, ea]; simp) hl hP b'
theorem gw_of {size : Nat} {l : List Int} {k : Nat} {x : Int} (hl : l.length = size) (hb : ∀ w ∈ l, 0 ≤ w ∧ w ≤ 5) (hk : l[k]? = some x) (hx : 1 ≤ x) : GW size l :=
  ⟨hl, fun w hw => by have := hb w hw; omega, by
    have := sum_ge (fun w hw => (hb w hw).1) hk
    omega⟩
theorem p_law_pair : ∀ ds st0 QA EA, ds.length = 2 → asp_lpair ds st0 QA EA → t_law_pair asp_shares asp_weights asp_take (bodyK st0 QA EA) ⟨Ab.start 11 ds, st0⟩ := by
  intro ds st0 QA EA hl ⟨n, size, N, e, hb, hN, s0, hs, q⟩
  subst e
  have hn := hb.lt
  have two : ∀ ws vs, noRef (.tup [shD ws, shD vs]) = true := fun ws vs => by rw [noRef]; simp [noRefs, noRef_sh]
  unfold t_law_pair
  walk_at "abw"
  refine run_takeC hn hb.refl (by omega) (by omega) (by omega) fun o st1 o0 o1 b1 => ?_
  walk_at "abw"
  refine run_weightsC hn b1 (by omega) s0 hs (by omega) (by omega) fun ws st2 hw b2 => ?_
  refine run_shares hw hs (.inr ⟨_, rfl, (ap_get0 b2.len).trans rfl⟩) ?_
  refine run_takeB hn b2 (by omega) (by omega) (by omega) fun way st3 w0 w1 b3 => ?_
  have fin : ∀ vs st' Z M, GW size vs → BoxTo st0 n M st' → M ≤ N + 200 → RetQ st0 QA (.tup [shD ws, shD vs]) (st' ++ Z) := fun vs st' Z M hv b hM => ret_val b (two ws vs) (q ws vs st' hw hv (b.mono hM))
  have e3 := b3.len
  walk_at "abw"
  refine ⟨fun _ => ⟨sz2, fin ws _ _ _ hw b3 (by omega)⟩, fun h0 => ⟨fun h1 => ?_, fun h1 => ⟨fun h2 => ?_, fun h2 => ?_⟩⟩⟩
  · refine ⟨_, rfl, ?_⟩
    have pr : ∀ w ∈ ws, 0 ≤ Rat.divInt w ws.sum ∧ Rat.divInt w ws.sum ≤ 1 := fun w hw' => by
      obtain ⟨i, hi, e⟩ := List.getElem_of_mem hw'
      have h1 := (hw.2.1 w hw').1
      have h2 := sum_ge (fun w h => (hw.2.1 w h).1) (by rw [List.getElem?_eq_getElem hi, e] : ws[i]? = some w)
      have hp := hw.2.2
      refine ⟨by rw [Rat.divInt_nonneg_iff_of_pos_right hp]; exact h1, ?_⟩
      rw [Rat.le_iff_sub_nonneg]
      have hT : ws.sum ≠ 0 := by omega
      have e1 : (1 : Rat) = Rat.divInt ws.sum ws.sum := by rw [Rat.divInt_self' hT]
      rw [e1, Rat.divInt_sub_divInt _ _ hT hT, ← Int.sub_mul, Rat.divInt_mul_right hT, Rat.divInt_nonneg_iff_of_pos_right hp]
      omega
    have sm : ∀ w ∈ ws, SmQ 4000 (Rat.divInt w ws.sum) := fun w hw' => by
      have h1 := hw.2.1 w hw'
      have h2 := sum_le' (r := ws) (B := 12) fun w hw => (‹GW size ws›.2.1 w hw).2
      have hp := hw.2.2
      have hl := hw.1
      exact sm_divInt (by omega) (sm_s (by omega) (by omega)) (sm_s (by omega) (by omega))
    refine compM_ok (h := fun w => qD (Rat.divInt w ws.sum)) (g := fun w => .int ((12 * (Rat.divInt w ws.sum).num).fdiv (Rat.divInt w ws.sum).den)) ws [] (fun w hw' => ?_) (by have := hw.1; simpa using sz_le (by omega)) ?_
    · refine ⟨_, rfl, fun A hA => ?_⟩
      have hd := (Rat.divInt w ws.sum).den_pos
      have hsm := sm w hw'
      walk_at "abw"
      exact ⟨mulOk (sm_s (by omega) (by omega)) hsm.1, divOk (by omega) hsm.2, hA⟩
    · have gv : ∀ z ∈ ws.map (fun w => (12 * (Rat.divInt w ws.sum).num).fdiv (Rat.divInt w ws.sum).den), 0 ≤ z ∧ z ≤ 12 := fun z hz => by
        obtain ⟨w, hw', e⟩ := List.mem_map.mp hz
        subst e
        exact fl12 (pr w hw').1 (pr w hw').2
      rw [List.nil_append, show ws.map (fun w => D.int ((12 * (Rat.divInt w ws.sum).num).fdiv (Rat.divInt w ws.sum).den)) = (ws.map fun w => (12 * (Rat.divInt w ws.sum).num).fdiv (Rat.divInt w ws.sum).den).map D.int by simp]
      have hl := hw.1
      have hvl : (ws.map fun w => (12 * (Rat.divInt w ws.sum).num).fdiv (Rat.divInt w ws.sum).den).length = size := by simpa using hl
      generalize (ws.map fun w => (12 * (Rat.divInt w ws.sum).num).fdiv (Rat.divInt w ws.sum).den) = vs at gv hvl
      walk_at "abw"
      rw [e3]
      refine run_takeB hn b3 (by omega) (by omega) (by omega) fun x st4 x0 x1 b4 => ?_
      walk_at "abw"
      refine run_takeB hn b4 (by omega) (by omega) (by omega) fun i st5 i0 i1 b5 => ?_
      obtain ⟨i, rfl⟩ := Int.eq_ofNat_of_zero_le i0
      rw [set_ref]
      refine ⟨_, i, (ap_get b5.len 1).trans rfl, by unfold L2.ixN; rw [if_pos (by omega), if_pos (by simp; omega)]; simp, ?_⟩
      rw [ap_set b5.len, ← List.map_set]
      have hv : GW size (vs.set i (1 + x)) := by
        refine ⟨by rw [List.length_set]; exact hvl, set_all gv ⟨by omega, by omega⟩, ?_⟩
        have := sum_ge (ws := vs.set i (1 + x)) (i := i) (x := 1 + x) (set_all (fun w hw => (gv w hw).1) (by omega)) (List.getElem?_set_self (by omega))
        omega
      refine run_shares hv hs (.inr ⟨_, rfl, (ap_get b5.len 1).trans rfl⟩) ?_
      exact ⟨sz2, fin _ _ _ _ hv b5 (by omega)⟩
  · refine run_takeB hn b3 (by omega) (by omega) (by omega) fun cut st4 c0 c1 b4 => ?_
    walk_at "abw"
    refine ⟨by omega, ?_⟩
    refine vec_int (P := fun k x => (k : Int) < 1 + cut → 1 ≤ x) (by omega) b4 (fun j st hj b => ?_) fun low st5 hl1 hl2 hl3 b5 => ?_
    · refine ⟨_, rfl, fun A hA => ?_⟩
      walk_at "abw"
      refine ⟨fun hc => ?_, fun hc => hA 0 st (by omega) (by omega) (fun h => by omega) (b.mono (by omega))⟩
      refine run_takeB hn b (by omega) (by omega) (by omega) fun x st2 x0 x1 b2 => ?_
      walk_at "abw"
      exact hA _ st2 (by omega) (by omega) (fun _ => by omega) b2
    refine ⟨by omega, ?_⟩
    refine vec_int (P := fun k x => (1 + cut ≤ (k : Int) ∨ 1 + cut = size) → 1 ≤ x) (by omega) b5 (fun j st hj b => ?_) fun high st6 hh1 hh2 hh3 b6 => ?_
    · refine ⟨_, rfl, fun A hA => ?_⟩
      walk_at "abw"
      refine ⟨fun hc => ?_, fun hc => ?_⟩
      · refine run_takeB hn b (by omega) (by omega) (by omega) fun x st2 x0 x1 b2 => ?_
        walk_at "abw"
        exact hA _ st2 (by omega) (by omega) (fun _ => by omega) b2
      · refine hA _ st ite01.1 (Int.le_trans ite01.2 (by decide)) (fun h => ?_) (b.mono (by omega))
        rw [if_pos (by omega)]
        decide
    have hlow : GW size low := gw_of hl1 hl2 (List.getElem?_eq_getElem (by omega : 0 < low.length)) (hl3 0 _ (List.getElem?_eq_getElem (by omega)) (by omega))
    have hhigh : GW size high := gw_of hh1 hh2 (List.getElem?_eq_getElem (by omega : size - 1 < high.length)) (hh3 (size - 1) _ (List.getElem?_eq_getElem (by omega)) (by omega))
    have two2 : noRef (.tup [shD low, shD high]) = true := two low high
    refine run_shares hlow hs (.inl rfl) ?_
    refine run_shares hhigh hs (.inl rfl) ?_
    exact ⟨sz2, ret_val b6 two2 (q low high st6 hlow hhigh (b6.mono (by omega)))⟩
  · refine run_takeB hn b3 (by omega) (by omega) (by omega) fun o st4 o0 o1 b4 => ?_
    walk_at "abw"
    refine run_weights hn b4 (by omega) s0 hs (by omega) (by omega) fun vs st5 hv b5 => ?_
    refine run_shares hv hs (.inr ⟨_, rfl, (ap_get b5.len 1).trans rfl⟩) ?_
    exact ⟨sz2, fin _ _ _ _ hv b5 (by omega)⟩
end K34
set_option Elab.async false
set_option linter.all false
set_option maxRecDepth 100000
set_option autoImplicit false
namespace K34
open PySem Ab K00
local macro_rules | `(tactic| walk_at "abq") => `(tactic| try simp [-Bool.exists_bool, -Bool.forall_bool, ↓exB, ↓iteB, aSeq, aAsg, aPar, aCB, aCons, aNil, aVar, aC, gName, aIfS, aTest, aNot, aAnd, aOr, aAndV, aOrV, aNotV, aIf, aOp, aUn, aRet, aTup, aLst, bodyK, Ab.start, List.replicate, aNext, aCall, aCallK, pick, aRaise, aRaise0, gSub, gTup, gNil, gCons, aExpr, aBM, aDk0, aLC, aSeqI, aSl, aPart, aNoPart, aRange1, aRange2, aFor, aYes, aPar3, wipeD, Tg.put, eqA_int, eqA_bl, eqA_nil, ix_tup, ix_lst, ix_scr, ix_ref, at_0, at_1, at_2, at_3, add_int, add_tup, add_str, add_lst, add_refl, mul_int, sub_int, fdiv_int, mod_int, pow_int, lt_int, le_int, gt_int, ge_int, neg_int, abs_int, gcd_int, max2_int, min2_int, int_int, int_bl, str_int, is_non, is_bl, isNonD, isi_ty, in_int, in_bool, in_str, in_tuple, in_list, in_dict, isiB, ty_non, ty_bl, ty_int, ty_str, ty_tup, ty_lst, ty_dk, ty_scr, len_tup, len_lst, len_scr, len_ref, len_dk, len_str, sl_tup, sl_lst, sl_scr, new_f, new_t, set_ref, app_ref, ext_ref, ty_ref, src_tup, src_lst, src_scr, ix_q0, ix_q1, aZip, aZipS, aEnum, zip_tt, zip_ll, tup_l, tup_t, tup_r, ex2t, ex2, ex2n, ex3, aLRg1, sum_ref, mul_lst, pop_ref, enum_ref, src_ref, gUnl, lsq_lst, aChain, aEnumX, enumX_t, enumX_l, mulX_tup, aTru, truD])
local macro_rules | `(tactic| walk_at "abw") => `(tactic| try simp [-Bool.exists_bool, -Bool.forall_bool, ↓exB, ↓iteB, aSeq, aAsg, aPar, aCB, aCons, aNil, aVar, aC, gName, aIfS, aTest, aNot, aAnd, aOr, aAndV, aOrV, aNotV, aIf, aOp, aUn, aRet, aTup, aLst, bodyK, Ab.start, List.replicate, aNext, aCall, aCallK, pick, aRaise, aRaise0, gSub, gTup, gNil, gCons, aExpr, aBM, aDk0, aLC, aSeqI, aSl, aPart, aNoPart, aRange1, aRange2, aFor, aYes, aPar3, wipeD, Tg.put, eqA_int, eqA_bl, eqA_nil, ix_tup, ix_lst, ix_scr, at_0, at_1, at_2, at_3, add_int, add_tup, add_str, add_lst, add_refl, mul_int, sub_int, fdiv_int, mod_int, pow_int, lt_int, le_int, gt_int, ge_int, neg_int, abs_int, gcd_int, max2_int, min2_int, int_int, int_bl, str_int, is_non, is_bl, isNonD, isi_ty, in_int, in_bool, in_str, in_tuple, in_list, in_dict, isiB, ty_non, ty_bl, ty_int, ty_str, ty_tup, ty_lst, ty_dk, ty_scr, len_tup, len_lst, len_scr, len_dk, len_str, sl_tup, sl_lst, sl_scr, new_f, new_t, app_ref, ext_ref, ty_ref, src_tup, src_lst, src_scr, ix_q0, ix_q1, aZip, aZipS, aEnum, zip_tt, zip_ll, tup_l, tup_t, tup_r, ex2t, ex2, ex2n, ex3, aLRg1, mul_lst, pop_ref, gUnl, lsq_lst, aChain, aEnumX, enumX_t, enumX_l, mulX_tup, aTru, truD])
open K02
/-! values near a distribution -/
def rowL (n : Nat) (f : Nat → Rat) : List D := (List.range n).map fun i => qD (f i)
theorem rowL_len {n : Nat} {f : Nat → Rat} : (rowL n f).length = n := by simp [rowL]
theorem rowL_VD {n : Nat} {f : Nat → Rat} : VD n f = .tup (rowL n f) := rfl
theorem rowL_at {n i : Nat} {f : Nat → Rat} (h : i < n) : (rowL n f)[i]? = some (qD (f i)) := by
  unfold rowL
  rw [List.getElem?_map, List.getElem?_range h]; rfl
theorem rowL_mem {n : Nat} {f : Nat → Rat} {y : D} (h : y ∈ rowL n f) : ∃ q, y = qD q := by
  obtain ⟨i, _, e⟩ := List.mem_map.mp h
  exact ⟨f i, e.symm⟩
/-- refused as the first and as the second one, and like neither of the two longer and shorter ones -/
def Odd (n : Nat) (x : D) : Prop := goodB 4 x = true ∧ (∀ st, BadV st x) ∧ (∀ st, IsD st n x false) ∧ ((∃ T, (∀ st, tyName st x = some T) ∧ T ≠ "tuple") ∨ ∃ ys, x = .tup ys ∧ flatBs 60 ys = true ∧ (ys.length = n ∨ ys = []))
def itB (t : D) : Bool := tyB t && goodB 3 t && flatB 59 t
theorem it_q {q : Rat} : itB (qD q) = true := by
  unfold itB
  rw [show (3 : Nat) = 1 + 2 from rfl, goodB_q]
  simp [qD, tyB, plainB, flatB, flatBs]
theorem goodBs_of {k : Nat} : ∀ {l : List D}, (∀ y ∈ l, goodB k y = true) → goodBs k l = true
  | [], _ => by unfold goodBs; rfl
  | y :: r, h => by unfold goodBs; rw [h y (by simp), goodBs_of fun z hz => h z (by simp [hz])]; rfl
theorem flatBs_of {k : Nat} : ∀ {l : List D}, (∀ y ∈ l, flatB k y = true) → flatBs k l = true
  | [], _ => by unfold flatBs; rfl
  | y :: r, h => by unfold flatBs; rw [h y (by simp), flatBs_of fun z hz => h z (by simp [hz])]; rfl
theorem flatB_up {k : Nat} {d : D} (h : flatB k d = true) : flatB (k + 1) d = true := flatB_up' k d h
  where
  flatB_up' : ∀ (k : Nat) (d : D), flatB k d = true → flatB (k + 1) d = true
    | 0, _, h => by simp [flatB] at h
    | k + 1, d, h => by
      have hs : ∀ l : List D, flatBs k l = true → flatBs (k + 1) l = true := fun l => by
        induction l with
        | nil => intro _; unfold flatBs; rfl
        | cons y r ih =>
          intro h
          unfold flatBs at h ⊢
          rw [Bool.and_eq_true] at h ⊢
          exact ⟨flatB_up' k y h.1, ih h.2⟩
      cases d <;> first | exact h | skip
      all_goals (unfold flatB at h ⊢; exact hs _ h)
theorem odd_items {n : Nat} {ys : List D} (hl : ys.length = n) (h0 : 0 < n) (h7 : n ≤ 7) (hi : ∀ y ∈ ys, itB y = true) (hx : ∀ st, IsD st n (.tup ys) false) : Odd n (.tup ys) := by
  have hg : ∀ y ∈ ys, goodB 3 y = true := fun y hy => by
    have := hi y hy; unfold itB at this; simp only [Bool.and_eq_true] at this; exact this.1.2
  have hf : ∀ y ∈ ys, flatB 60 y = true := fun y hy => by
    have := hi y hy; unfold itB at this; simp only [Bool.and_eq_true] at this; exact flatB_up this.2
  refine ⟨?_, fun st => .inr ⟨ys, rfl, .inr (.inr (by rw [hl]; exact hx st))⟩, hx, .inr ⟨ys, rfl, flatBs_of hf, .inl hl⟩⟩
  show (decide (ys.length ≤ 1000) && goodBs 3 ys) = true
  rw [goodBs_of hg]
  simp; omega
theorem ty_items {ys : List D} {st : Store} (hi : ∀ y ∈ ys, itB y = true) : ∀ y ∈ ys, TyOk st y := fun y hy => by
  have := hi y hy; unfold itB at this; simp only [Bool.and_eq_true] at this; exact tyB_ok this.1.1
theorem odd_bad {n : Nat} {ys : List D} (hl : ys.length = n) (h0 : 0 < n) (h7 : n ≤ 7) (hi : ∀ y ∈ ys, itB y = true) {t : D} (ht : t ∈ ys) (hp : isPr t = false) : Odd n (.tup ys) :=
  odd_items hl h0 h7 hi fun st => .inr (.inl ⟨rfl, ys, rfl, by rw [hl], by omega, ty_items hi, t, ht, hp⟩)
theorem set_items {n at_ : Nat} {f : Nat → Rat} {t : D} (ht : itB t = true) : ∀ y ∈ (rowL n f).set at_ t, itB y = true := fun y hy => by
  rcases List.mem_or_eq_of_mem_set hy with h | h
  · obtain ⟨q, e⟩ := rowL_mem h
    rw [e]; exact it_q
  · rw [h]; exact ht
theorem odd_set {n at_ : Nat} {f : Nat → Rat} {t : D} (h0 : 0 < n) (h7 : n ≤ 7) (ha : at_ < n) (ht : itB t = true) (hp : isPr t = false) : Odd n (.tup ((rowL n f).set at_ t)) :=
  odd_bad (by rw [List.length_set, rowL_len]) h0 h7 (set_items ht) (List.mem_of_getElem? (List.getElem?_set_self (by rw [rowL_len]; exact ha))) hp
theorem Dis.le1 {n i : Nat} {f : Nat → Rat} (h : Dis n f) (hi : i < n) : f i ≤ 1 := by
  obtain ⟨_, _, _, _, D, D0, _, hg⟩ := h
  obtain ⟨_, k, hk, e⟩ := hg i hi
  rw [e, Rat.le_iff_sub_nonneg]
  have hD0 : (D : Int) ≠ 0 := by omega
  have e1 : (1 : Rat) = Rat.divInt D D := by rw [Rat.divInt_self' hD0]
  rw [e1, Rat.divInt_sub_divInt _ _ hD0 hD0, ← Int.sub_mul, Rat.divInt_mul_right hD0, Rat.divInt_nonneg_iff_of_pos_right (by omega)]
  omega
theorem gr_den {D : Nat} {q p : Rat} {b : Nat} (hq : Gr D b q) (e : p.den = q.den) (h0 : 0 ≤ p) (h1 : p ≤ 1) : Gr D D p := by
  obtain ⟨D0, k, hk, hkq⟩ := hq
  have hD0 : (D : Int) ≠ 0 := by omega
  have hd : p.den ∣ D := by
    rw [e, hkq, Rat.den_divInt, if_neg hD0]
    rw [Int.natAbs_natCast]
    exact Nat.div_dvd_of_dvd (by
      have := Int.gcd_dvd_left (D : Int) k
      exact Int.natCast_dvd_natCast.mp this)
  obtain ⟨c, hc⟩ := hd
  have dp := p.den_pos
  have c0 : c ≠ 0 := fun z => by subst z; simp at hc; omega
  have n0 := Rat.num_nonneg.mpr h0
  have n1 : p.num ≤ p.den := by rw [Rat.le_iff] at h1; simpa using h1
  refine ⟨D0, p.num * c, ?_, ?_⟩
  · rw [Int.natAbs_mul, hc]
    exact Nat.mul_le_mul (by omega) (by simp)
  · rw [hc, Int.natCast_mul, Rat.divInt_mul_right (by omega), Rat.num_divInt_den]
theorem sumF_set {n at_ : Nat} {f : Nat → Rat} {q : Rat} (ha : at_ < n) : sumF n (fun i => if i = at_ then q else f i) = sumF n f + (q - f at_) := by
  have e : ∀ i, (if i = at_ then q else f i) = f i + (if i = at_ then q - f at_ else 0) := fun i => by
    by_cases h : i = at_
    · subst h; rw [if_pos rfl, if_pos rfl]; grind
    · rw [if_neg h, if_neg h, Rat.add_zero]
  unfold sumF
  simp only [e]
  rw [sumQ_add]
  congr 1
  have := sum_one n at_ fun _ => q - f at_
  rw [this, if_pos ha]
theorem odd_up {n at_ : Nat} {f : Nat → Rat} (h : Dis n f) (ha : at_ < n) : Odd n (.tup ((rowL n f).set at_ (.tup [.int ((f at_).num + 1), .int (f at_).den]))) := by
  have hit : itB (.tup [.int ((f at_).num + 1), .int (f at_).den]) = true := by simp [itB, tyB, plainB, goodB, goodBs, flatB, flatBs]
  by_cases hp : isPr (.tup [.int ((f at_).num + 1), .int (f at_).den]) = true
  · have hr : ((f at_).num + 1).natAbs.gcd (f at_).den = 1 := by
      unfold isPr at hp
      simp only [Bool.and_eq_true, decide_eq_true_eq, Int.natAbs_natCast] at hp
      omega
    obtain ⟨q, hqn, hqd⟩ : ∃ q : Rat, q.num = (f at_).num + 1 ∧ q.den = (f at_).den := ⟨⟨(f at_).num + 1, (f at_).den, (f at_).den_nz, hr⟩, rfl, rfl⟩
    have eq : D.tup [.int ((f at_).num + 1), .int (f at_).den] = qD q := by unfold qD; rw [hqn, hqd]
    rw [eq] at hp hit ⊢
    rw [isPr_q, decide_eq_true_iff] at hp
    have hl : ((rowL n f).set at_ (qD q)) = ((List.range n).map fun i => if i = at_ then q else f i).map qD := by
      apply List.ext_getElem?
      intro i
      rw [List.getElem?_set, List.getElem?_map, List.getElem?_map]
      by_cases hi : i < n
      · rw [List.getElem?_range hi]
        by_cases e : at_ = i
        · subst e; rw [if_pos rfl, if_pos (by rw [rowL_len]; exact hi)]; simp
        · rw [if_neg e, rowL_at hi]; simp [Ne.symm e]
      · rw [if_neg (by omega), List.getElem?_eq_none (by rw [rowL_len]; omega), List.getElem?_eq_none (by simp; omega)]; rfl
    have h' := h
    obtain ⟨n0, n7, f0, fs, D, D0, hD, hg⟩ := h'
    have hgr : ∀ p ∈ (List.range n).map (fun i => if i = at_ then q else f i), (0 ≤ p ∧ p ≤ 1) ∧ Gr D D p := fun p hpm => by
      obtain ⟨i, hi, e⟩ := List.mem_map.mp hpm
      have hi := List.mem_range.mp hi
      subst e
      by_cases e : i = at_
      · rw [if_pos e]; exact ⟨hp, gr_den (hg at_ ha) hqd hp.1 hp.2⟩
      · rw [if_neg e]; exact ⟨⟨f0 i hi, h.le1 hi⟩, hg i hi⟩
    refine odd_items (by rw [List.length_set, rowL_len]) n0 n7 (set_items hit) fun st => .inr (.inr ⟨_, by rw [hl], by simp, fun p hpm => (hgr p hpm).1, ?_, ?_⟩)
    · exact sumOk_of (D := D) (b := D) (by simp; omega) D0 (Nat.le_trans hD (Nat.pow_le_pow_right (by decide) (by decide))) (Nat.le_trans hD (Nat.pow_le_pow_right (by decide) (by decide))) fun p hpm => (hgr p hpm).2
    · have : sumQ ((List.range n).map fun i => if i = at_ then q else f i) = 1 + (q - f at_) := by
        rw [← fs]; exact sumF_set ha
      rw [this]
      symm
      rw [decide_eq_false_iff_not]
      intro z
      have : q = f at_ := by grind
      rw [this] at hqn
      omega
  · exact odd_set h.1 h.2.1 ha hit (by simpa using hp)
end K34
set_option Elab.async false
set_option linter.all false
set_option maxRecDepth 100000
set_option autoImplicit false
namespace K34
open PySem Ab K00
local macro_rules | `(tactic| walk_at "abq") => `(tactic| try simp [-Bool.exists_bool, -Bool.forall_bool, ↓exB, ↓iteB, aSeq, aAsg, aPar, aCB, aCons, aNil, aVar, aC, gName, aIfS, aTest, aNot, aAnd, aOr, aAndV, aOrV, aNotV, aIf, aOp, aUn, aRet, aTup, aLst, bodyK, Ab.start, List.replicate, aNext, aCall, aCallK, pick, aRaise, aRaise0, gSub, gTup, gNil, gCons, aExpr, aBM, aDk0, aLC, aSeqI, aSl, aPart, aNoPart, aRange1, aRange2, aFor, aYes, aPar3, wipeD, Tg.put, eqA_int, eqA_bl, eqA_nil, ix_tup, ix_lst, ix_scr, ix_ref, at_0, at_1, at_2, at_3, add_int, add_tup, add_str, add_lst, add_refl, mul_int, sub_int, fdiv_int, mod_int, pow_int, lt_int, le_int, gt_int, ge_int, neg_int, abs_int, gcd_int, max2_int, min2_int, int_int, int_bl, str_int, is_non, is_bl, isNonD, isi_ty, in_int, in_bool, in_str, in_tuple, in_list, in_dict, isiB, ty_non, ty_bl, ty_int, ty_str, ty_tup, ty_lst, ty_dk, ty_scr, len_tup, len_lst, len_scr, len_ref, len_dk, len_str, sl_tup, sl_lst, sl_scr, new_f, new_t, set_ref, app_ref, ext_ref, ty_ref, src_tup, src_lst, src_scr, ix_q0, ix_q1, aZip, aZipS, aEnum, zip_tt, zip_ll, tup_l, tup_t, tup_r, ex2t, ex2, ex2n, ex3, aLRg1, sum_ref, mul_lst, pop_ref, enum_ref, src_ref, gUnl, lsq_lst, aChain, aEnumX, enumX_t, enumX_l, mulX_tup, aTru, truD])
local macro_rules | `(tactic| walk_at "abw") => `(tactic| try simp [-Bool.exists_bool, -Bool.forall_bool, ↓exB, ↓iteB, aSeq, aAsg, aPar, aCB, aCons, aNil, aVar, aC, gName, aIfS, aTest, aNot, aAnd, aOr, aAndV, aOrV, aNotV, aIf, aOp, aUn, aRet, aTup, aLst, bodyK, Ab.start, List.replicate, aNext, aCall, aCallK, pick, aRaise, aRaise0, gSub, gTup, gNil, gCons, aExpr, aBM, aDk0, aLC, aSeqI, aSl, aPart, aNoPart, aRange1, aRange2, aFor, aYes, aPar3, wipeD, Tg.put, eqA_int, eqA_bl, eqA_nil, ix_tup, ix_lst, ix_scr, at_0, at_1, at_2, at_3, add_int, add_tup, add_str, add_lst, add_refl, mul_int, sub_int, fdiv_int, mod_int, pow_int, lt_int, le_int, gt_int, ge_int, neg_int, abs_int, gcd_int, max2_int, min2_int, int_int, int_bl, str_int, is_non, is_bl, isNonD, isi_ty, in_int, in_bool, in_str, in_tuple, in_list, in_dict, isiB, ty_non, ty_bl, ty_int, ty_str, ty_tup, ty_lst, ty_dk, ty_scr, len_tup, len_lst, len_scr, len_dk, len_str, sl_tup, sl_lst, sl_scr, new_f, new_t, app_ref, ext_ref, ty_ref, src_tup, src_lst, src_scr, ix_q0, ix_q1, aZip, aZipS, aEnum, zip_tt, zip_ll, tup_l, tup_t, tup_r, ex2t, ex2, ex2n, ex3, aLRg1, mul_lst, pop_ref, gUnl, lsq_lst, aChain, aEnumX, enumX_t, enumX_l, mulX_tup, aTru, truD])
open K02
theorem cut_to {xs : List D} {i : Nat} : cutD xs none (some (i : Int)) = xs.take i := by
  unfold cutD
  rw [HT.sIx_nat]
  show (xs.drop 0).take (min i xs.length - 0) = _
  rw [List.drop_zero, Nat.sub_zero]
  rcases Nat.le_total i xs.length with h | h
  · rw [Nat.min_eq_left h]
  · rw [Nat.min_eq_right h, List.take_length, List.take_of_length_le h]
theorem cut_from {xs : List D} {i : Nat} (h : i ≤ xs.length) : cutD xs (some (i : Int)) none = xs.drop i := by
  unfold cutD
  rw [HT.sIx_nat, Nat.min_eq_left h]
  show (xs.drop i).take (xs.length - i) = _
  rw [List.take_of_length_le (by simp)]
theorem cut_last {xs : List D} (h : 0 < xs.length) : cutD xs none (some (-1)) = xs.dropLast := by
  unfold cutD
  have : HT.sIx xs.length xs.length (some (-1)) = xs.length - 1 := by
    unfold HT.sIx
    simp
    omega
  rw [this]
  show (xs.drop 0).take (xs.length - 1 - 0) = _
  rw [List.drop_zero, Nat.sub_zero, List.dropLast_eq_take]
mutual
theorem good_noRef : ∀ {k : Nat} {d : D}, goodB k d = true → noRef d = true
  | 0, _, h => by simp [goodB] at h
  | k + 1, d, h => by
    unfold goodB at h
    cases d with
    | tup xs => simp only [Bool.and_eq_true] at h; rw [noRef]; exact goods_noRef h.2
    | lst xs => simp only [Bool.and_eq_true] at h; rw [noRef]; exact goods_noRef h.2
    | dk kvs => cases kvs with
      | nil => rfl
      | cons _ _ => simp at h
    | ref n => simp at h
    | ins _ _ => simp at h
    | exc _ _ _ _ => simp at h
    | _ => rfl
theorem goods_noRef : ∀ {k : Nat} {xs : List D}, goodBs k xs = true → noRefs xs = true
  | _, [], _ => rfl
  | k, x :: r, h => by
    unfold goodBs at h
    rw [Bool.and_eq_true] at h
    rw [noRefs, good_noRef h.1, goods_noRef h.2]; rfl
end
def NearOf (n : Nat) (f : Nat → Rat) (x : D) : Prop := x = .tup (rowL n f ++ [qD 0]) ∨ x = .tup (rowL n f).dropLast ∨ Odd n x
def asp_lnear : ASp := fun ds st QA _ => ∃ n, ∃ m : Nat, ∃ f N, ds = [.ref n, VD m f] ∧ Dis m f ∧ BoxAt st n N ∧ N ≤ 2 ^ 33 ∧ ∀ x st', NearOf m f x → BoxTo st n (N + 2) st' → QA x st'
theorem goodB_row {n : Nat} {f : Nat → Rat} (h : n ≤ 7) : goodB 4 (.tup (rowL n f)) = true := by
  show (decide ((rowL n f).length ≤ 1000) && goodBs 3 (rowL n f)) = true
  rw [rowL_len, goodBs_of fun y hy => by obtain ⟨q, e⟩ := rowL_mem hy; rw [e]; exact goodB_q]
  simp; omega
theorem near_good {n : Nat} {f : Nat → Rat} {x : D} (h7 : n ≤ 7) (h : NearOf n f x) : goodB 4 x = true := by
  rcases h with h | h | h
  · subst h
    show (decide ((rowL n f ++ [qD 0]).length ≤ 1000) && goodBs 3 (rowL n f ++ [qD 0])) = true
    rw [List.length_append, rowL_len, goodBs_of fun y hy => by
      rcases List.mem_append.mp hy with h | h
      · obtain ⟨q, e⟩ := rowL_mem h; rw [e]; exact goodB_q
      · rw [List.mem_singleton.mp h]; exact goodB_q]
    simp; omega
  · subst h
    show (decide ((rowL n f).dropLast.length ≤ 1000) && goodBs 3 (rowL n f).dropLast) = true
    rw [List.length_dropLast, rowL_len, goodBs_of fun y hy => by
      obtain ⟨q, e⟩ := rowL_mem (List.dropLast_subset _ hy); rw [e]; exact goodB_q]
    simp; omega
  · exact h.1
def nM1 : AT := (aAsg (aLst false (aCons (aCB (listA false) (aCons (aVar 1) aNil)) (aCons (aOp (addA false) (aVar 1) (aTup (aCons (aTup (aCons (aC (.int 0)) (aCons (aC (.int 1)) aNil))) aNil))) (aCons (aSl (slA false) (aVar 1) aNoPart (aPart (aUn negA (aC (.int 1))))) (aCons (aC .non) (aCons (aC (.str "one")) (aCons (aOp (addA false) (aOp (addA false) (aSl (slA false) (aVar 1) aNoPart (aPart (aVar 3))) (aTup (aCons (aTup (aCons (aOp (addA false) (aVar 4) (aC (.int 1))) (aCons (aVar 5) aNil))) aNil))) (aSl (slA false) (aVar 1) (aPart (aOp (addA false) (aVar 3) (aC (.int 1)))) aNoPart)) (aCons (aOp (addA false) (aOp (addA false) (aSl (slA false) (aVar 1) aNoPart (aPart (aVar 3))) (aTup (aCons (aC .non) aNil))) (aSl (slA false) (aVar 1) (aPart (aOp (addA false) (aVar 3) (aC (.int 1)))) aNoPart)) aNil)))))))) (gName 6))
def nM2 : AT := (aAsg (aOp (addA false) (aVar 6) (aLst false (aCons (aOp (addA false) (aOp (addA false) (aSl (slA false) (aVar 1) aNoPart (aPart (aVar 3))) (aTup (aCons (aLst false (aCons (aVar 4) (aCons (aVar 5) aNil))) aNil))) (aSl (slA false) (aVar 1) (aPart (aOp (addA false) (aVar 3) (aC (.int 1)))) aNoPart)) (aCons (aOp (addA false) (aOp (addA false) (aSl (slA false) (aVar 1) aNoPart (aPart (aVar 3))) (aTup (aCons (aTup (aCons (aOp (mulA false) (aC (.int 2)) (aVar 4)) (aCons (aOp (mulA false) (aC (.int 2)) (aVar 5)) aNil))) aNil))) (aSl (slA false) (aVar 1) (aPart (aOp (addA false) (aVar 3) (aC (.int 1)))) aNoPart)) (aCons (aOp (addA false) (aOp (addA false) (aSl (slA false) (aVar 1) aNoPart (aPart (aVar 3))) (aTup (aCons (aTup (aCons (aVar 4) (aCons (aVar 5) (aCons (aC (.int 0)) aNil)))) aNil))) (aSl (slA false) (aVar 1) (aPart (aOp (addA false) (aVar 3) (aC (.int 1)))) aNoPart)) aNil))))) (gName 6))
def nM3 : AT := (aAsg (aOp (addA false) (aVar 6) (aLst false (aCons (aOp (addA false) (aOp (addA false) (aSl (slA false) (aVar 1) aNoPart (aPart (aVar 3))) (aTup (aCons (aTup (aCons (aUn negA (aC (.int 1))) (aCons (aC (.int 2)) aNil))) aNil))) (aSl (slA false) (aVar 1) (aPart (aOp (addA false) (aVar 3) (aC (.int 1)))) aNoPart)) (aCons (aIf (aTest (aOp (eqA false) (aVar 5) (aC (.int 1)))) (aOp (addA false) (aOp (addA false) (aSl (slA false) (aVar 1) aNoPart (aPart (aVar 3))) (aTup (aCons (aTup (aCons (aVar 4) (aCons (aC (.bl true)) aNil))) aNil))) (aSl (slA false) (aVar 1) (aPart (aOp (addA false) (aVar 3) (aC (.int 1)))) aNoPart)) (aOp (mulX false) (aTup (aCons (aTup (aCons (aUn negA (aVar 4)) (aCons (aUn negA (aVar 5)) aNil))) aNil)) (aVar 2))) (aCons (aTup aNil) (aCons (aC (.int 5)) aNil)))))) (gName 6))
def nIf : AT := (aIfS (aTest (aOp gtA (aVar 2) (aC (.int 1)))) (aSeq (aAsg (aOp modA (aCB intA (aCons (aOp (addA false) (aVar 3) (aC (.int 1))) aNil)) (aVar 2)) (gName 7)) (aSeq (aAsg (aCB (listA true) (aCons (aVar 1) aNil)) (gName 8)) (aSeq (aAsg (aTup (aCons (aCall 2 asp_add (aCons (aOp ixA (aVar 1) (aVar 3)) (aCons (aTup (aCons (aC (.int 3)) (aCons (aC (.int 2)) aNil))) aNil))) (aCons (aCall 2 asp_sub (aCons (aOp ixA (aVar 1) (aVar 7)) (aCons (aTup (aCons (aC (.int 3)) (aCons (aC (.int 2)) aNil))) aNil))) aNil))) (gTup 2 (gCons (gSub setA (aVar 8) (aVar 3)) (gCons (gSub setA (aVar 8) (aVar 7)) gNil)))) (aAsg (aOp (addA false) (aVar 6) (aOp (mulA false) (aLst false (aCons (aCB tupleA (aCons (aVar 8) aNil)) aNil)) (aCB intA (aCons (aOp ltA (aOp ixA (aOp ixA (aVar 8) (aVar 7)) (aC (.int 0))) (aC (.int 0))) aNil)))) (gName 6))))) aNext)
def nR : AT := (aRet (aOp ixA (aVar 6) (aCall 2 asp_take (aCons (aVar 0) (aCons (aCB lenA (aCons (aVar 6) aNil)) aNil)))))

abbrev sN (n m : Nat) (f : Nat → Rat) (a : Nat) (M : Option D) (w7 w8 : Option D) : List (Option D) := [some (.ref n), some (.tup (rowL m f)), some (.int m), some (.int a), some (.int (f a).num), some (.int (f a).den), M, w7, w8]
section
variable {st : Store} {n m a : Nat} {f : Nat → Rat} {E : AK}
/-- the value with one item replaced -/
def rp (m : Nat) (f : Nat → Rat) (a : Nat) (t : D) : D := .tup ((rowL m f).set a t)
theorem rp_eq {t : D} (ha : a < m) : D.tup ((rowL m f).take a ++ t :: (rowL m f).drop (a + 1)) = rp m f a t := by
  unfold rp
  rw [List.set_eq_take_append_cons_drop, if_pos (by rw [rowL_len]; exact ha)]
theorem cutA (ha : a < m) : cutD (rowL m f) none (some (a : Int)) = (rowL m f).take a ∧ cutD (rowL m f) (some ((a : Int) + 1)) none = (rowL m f).drop (a + 1) ∧ ((rowL m f).take a).length = a ∧ ((rowL m f).drop (a + 1)).length = m - (a + 1) :=
  ⟨cut_to, by rw [show (a : Int) + 1 = ((a + 1 : Nat) : Int) by omega, cut_from (by rw [rowL_len]; omega)], by rw [List.length_take, rowL_len]; omega, by rw [List.length_drop, rowL_len]⟩
def N1 (m : Nat) (f : Nat → Rat) (a : Nat) : List D := [.lst (rowL m f), .tup (rowL m f ++ [qD 0]), .tup (rowL m f).dropLast, .non, .str "one", rp m f a (.tup [.int ((f a).num + 1), .int (f a).den]), rp m f a .non]
def N2 (m : Nat) (f : Nat → Rat) (a : Nat) : List D := [rp m f a (.lst [.int (f a).num, .int (f a).den]), rp m f a (.tup [.int (2 * (f a).num), .int (2 * (f a).den)]), rp m f a (.tup [.int (f a).num, .int (f a).den, .int 0])]
def N3 (m : Nat) (f : Nat → Rat) (a : Nat) : List D := [rp m f a (.tup [.int (-1), .int 2]), if ((f a).den : Int) = 1 then rp m f a (.tup [.int (f a).num, .bl true]) else .tup (List.replicate m (.tup [.int (-(f a).num), .int (-((f a).den : Int))])), .tup [], .int 5]
theorem nM1_ok (m0 : 0 < m) (m7 : m ≤ 7) (ha : a < m) (h : E.nx ⟨sN n m f a (some (.lst (N1 m f a))) none none, st⟩) : nM1 E ⟨sN n m f a none none none, st⟩ := by
  obtain ⟨c1, c2, l1, l2⟩ := cutA (f := f) ha
  unfold nM1
  simp only [sN] at *
  walk_at "abw"
  rw [c1, c2, l1, l2, rowL_len, cut_last (by rw [rowL_len]; exact m0), rp_eq ha, rp_eq ha]
  exact ⟨_, rfl, sz2, sz_le (by omega), sz_le (by omega), sz2, sz_le (by omega), sz_le (by omega), sz_le (by omega), sz_le (by omega), sz_le (by omega), sz_le (by omega), sz_le (by omega), h⟩
theorem nM2_ok (hf : Dis m f) (ha : a < m) (h : E.nx ⟨sN n m f a (some (.lst (N1 m f a ++ N2 m f a))) none none, st⟩) : nM2 E ⟨sN n m f a (some (.lst (N1 m f a))) none none, st⟩ := by
  have m7 := hf.2.1
  obtain ⟨c1, c2, l1, l2⟩ := cutA (f := f) ha
  have hsm : Sm 4000 (f a).num ∧ Sm 4000 (f a).den := by
    obtain ⟨_, _, _, _, D, D0, hD, hg⟩ := hf
    have := (hg a ha).sm (n := 20) (Nat.lt_of_le_of_lt hD (by decide)) (Nat.lt_of_le_of_lt hD (by decide))
    exact ⟨this.1.mono (by decide), this.2.mono (by decide)⟩
  unfold nM2
  simp only [sN] at *
  walk_at "abw"
  rw [c1, c2, l1, l2, rp_eq ha, rp_eq ha, rp_eq ha]
  have hl : (N1 m f a).length = 7 := rfl
  exact ⟨sz2, sz_le (by omega), sz_le (by omega), sz_le (by omega), mulOk (sm_s (by omega) (by omega)) hsm.1, mulOk (sm_s (by omega) (by omega)) hsm.2, sz2, sz_le (by omega), sz_le (by omega), sz_le (by omega), sz_le (by omega), sz_le (by omega), sz_le (by omega), sz_le (by omega), sz_le (by omega), sz_le (by omega), h⟩
theorem nM3_ok (hf : Dis m f) (ha : a < m) (h : E.nx ⟨sN n m f a (some (.lst (N1 m f a ++ N2 m f a ++ N3 m f a))) none none, st⟩) : nM3 E ⟨sN n m f a (some (.lst (N1 m f a ++ N2 m f a))) none none, st⟩ := by
  have m0 := hf.1
  have m7 := hf.2.1
  obtain ⟨c1, c2, l1, l2⟩ := cutA (f := f) ha
  unfold nM3
  simp only [sN] at *
  walk_at "abw"
  rw [c1, c2, l1, l2, rp_eq ha, rp_eq ha]
  have hl : (N1 m f a).length = 7 := rfl
  have hl2 : (N2 m f a).length = 3 := rfl
  rw [List.append_assoc] at h
  refine ⟨sz2, sz_le (by omega), sz_le (by omega), sz_le (by omega), fun hd => ⟨sz2, sz_le (by omega), sz_le (by omega), sz_le (by omega), sz_le (by omega), sz_le (by omega), ?_⟩, fun hd => ⟨sz2, sz_le (by omega), by omega, sz_le (by omega), sz_le (by omega), ?_⟩⟩
  · unfold N3 at h
    rw [if_pos hd] at h
    exact h
  · unfold N3 at h
    rw [if_neg hd] at h
    exact h
def q32 : Rat := Rat.divInt 3 2
theorem q_32 : D.tup [.int 3, .int 2] = qD q32 := by rfl
theorem sm_32 : SmQ 1000 q32 := by
  have : q32.num = 3 ∧ q32.den = 2 := by decide +kernel
  unfold SmQ Sm
  rw [this.1, this.2]
  decide
def otr (m a : Nat) : Nat := (a + 1) % m
def rowW (m : Nat) (f : Nat → Rat) (a : Nat) : List D := ((rowL m f).set a (qD (f a + q32))).set (otr m a) (qD (f (otr m a) - q32))
theorem Dis.smI {i : Nat} (hf : Dis m f) (hi : i < m) : SmQ 1000 (f i) := by
  obtain ⟨_, _, _, _, D, D0, hD, hg⟩ := hf
  exact (hg i hi).sm (Nat.lt_of_le_of_lt hD (by decide)) (Nat.lt_of_le_of_lt hD (by decide))
theorem lt_32 {q : Rat} (h : q ≤ 1) : (q - q32).num < 0 := by
  have h1 : q - q32 < 0 := by
    have : q32 = 3 / 2 := by decide +kernel
    rw [this]; grind
  have h2 : ¬ 0 ≤ (q - q32).num := fun z => by
    have := Rat.num_nonneg.mp z
    grind
  omega
theorem nIf_ok {M : List D} (hf : Dis m f) (ha : a < m) (hM : M.length ≤ 20) (h1 : m = 1 → ∀ w7 w8, E.nx ⟨sN n m f a (some (.lst M)) w7 w8, st ++ []⟩) (h2 : 1 < m → ∀ w7 w8 Z, E.nx ⟨sN n m f a (some (.lst (M ++ [.tup (rowW m f a)]))) w7 w8, st ++ Z⟩) : nIf E ⟨sN n m f a (some (.lst M)) none none, st⟩ := by
  have m0 := hf.1
  have m7 := hf.2.1
  have ho : otr m a < m := Nat.mod_lt _ m0
  have eo : ((a : Int) + 1).fmod m = (otr m a : Nat) := by
    rw [Int.fmod_eq_emod_of_nonneg _ (by omega)]
    unfold otr
    norm_cast
  have hlt := lt_32 (hf.le1 ho)
  unfold nIf
  simp only [sN] at *
  rw [List.append_nil] at h1
  walk_at "abw"
  rw [eo, q_32]
  refine ⟨fun hm => ⟨by omega, ?_⟩, fun hm => h1 (by omega) _ _⟩
  refine ⟨_, rfl, ?_⟩
  rw [new_t]
  refine ⟨_, at_nat.trans (rowL_at ha), sz2, ?_⟩
  rw [run_add (hf.smI ha) sm_32]
  refine ⟨_, at_nat.trans (rowL_at ho), sz2, ?_⟩
  rw [run_sub (hf.smI ho) sm_32]
  refine ⟨sz2, ?_⟩
  rw [set_ref]
  refine ⟨_, a, (ap_get0 rfl).trans rfl, by unfold L2.ixN; rw [if_pos (by omega), if_pos (by rw [rowL_len]; omega)]; simp, ?_⟩
  rw [ap_set0 rfl, List.set_cons_zero, set_ref]
  refine ⟨_, otr m a, (ap_get0 rfl).trans rfl, by unfold L2.ixN; rw [if_pos (by omega), if_pos (by rw [List.length_set, rowL_len]; omega)]; simp, ?_⟩
  rw [ap_set0 rfl, List.set_cons_zero, tup_r]
  refine ⟨_, (ap_get0 rfl).trans rfl, sz_le (by omega), ?_⟩
  rw [ix_ref]
  refine ⟨_, qD (f (otr m a) - q32), (ap_get0 rfl).trans rfl, by rw [at_nat]; exact List.getElem?_set_self (by rw [List.length_set, rowL_len]; exact ho), ?_⟩
  rw [ix_q0, lt_int, int_bl, decide_eq_true hlt]
  walk_at "abw"
  refine ⟨sz_le (by omega), sz_le (by omega), ?_⟩
  exact h2 (by omega) _ _ _
end
end K34
set_option Elab.async false
set_option linter.all false
set_option maxRecDepth 100000
set_option autoImplicit false
namespace K34
open PySem Ab K00
local macro_rules | `(tactic| walk_at "abq") => `(tactic| try simp [-Bool.exists_bool, -Bool.forall_bool, ↓exB, ↓iteB, aSeq, aAsg, aPar, aCB, aCons, aNil, aVar, aC, gName, aIfS, aTest, aNot, aAnd, aOr, aAndV, aOrV, aNotV, aIf, aOp, aUn, aRet, aTup, aLst, bodyK, Ab.start, List.replicate, aNext, aCall, aCallK, pick, aRaise, aRaise0, gSub, gTup, gNil, gCons, aExpr, aBM, aDk0, aLC, aSeqI, aSl, aPart, aNoPart, aRange1, aRange2, aFor, aYes, aPar3, wipeD, Tg.put, eqA_int, eqA_bl, eqA_nil, ix_tup, ix_lst, ix_scr, ix_ref, at_0, at_1, at_2, at_3, add_int, add_tup, add_str, add_lst, add_refl, mul_int, sub_int, fdiv_int, mod_int, pow_int, lt_int, le_int, gt_int, ge_int, neg_int, abs_int, gcd_int, max2_int, min2_int, int_int, int_bl, str_int, is_non, is_bl, isNonD, isi_ty, in_int, in_bool, in_str, in_tuple, in_list, in_dict, isiB, ty_non, ty_bl, ty_int, ty_str, ty_tup, ty_lst, ty_dk, ty_scr, len_tup, len_lst, len_scr, len_ref, len_dk, len_str, sl_tup, sl_lst, sl_scr, new_f, new_t, set_ref, app_ref, ext_ref, ty_ref, src_tup, src_lst, src_scr, ix_q0, ix_q1, aZip, aZipS, aEnum, zip_tt, zip_ll, tup_l, tup_t, tup_r, ex2t, ex2, ex2n, ex3, aLRg1, sum_ref, mul_lst, pop_ref, enum_ref, src_ref, gUnl, lsq_lst, aChain, aEnumX, enumX_t, enumX_l, mulX_tup, aTru, truD])
local macro_rules | `(tactic| walk_at "abw") => `(tactic| try simp [-Bool.exists_bool, -Bool.forall_bool, ↓exB, ↓iteB, aSeq, aAsg, aPar, aCB, aCons, aNil, aVar, aC, gName, aIfS, aTest, aNot, aAnd, aOr, aAndV, aOrV, aNotV, aIf, aOp, aUn, aRet, aTup, aLst, bodyK, Ab.start, List.replicate, aNext, aCall, aCallK, pick, aRaise, aRaise0, gSub, gTup, gNil, gCons, aExpr, aBM, aDk0, aLC, aSeqI, aSl, aPart, aNoPart, aRange1, aRange2, aFor, aYes, aPar3, wipeD, Tg.put, eqA_int, eqA_bl, eqA_nil, ix_tup, ix_lst, ix_scr, at_0, at_1, at_2, at_3, add_int, add_tup, add_str, add_lst, add_refl, mul_int, sub_int, fdiv_int, mod_int, pow_int, lt_int, le_int, gt_int, ge_int, neg_int, abs_int, gcd_int, max2_int, min2_int, int_int, int_bl, str_int, is_non, is_bl, isNonD, isi_ty, in_int, in_bool, in_str, in_tuple, in_list, in_dict, isiB, ty_non, ty_bl, ty_int, ty_str, ty_tup, ty_lst, ty_dk, ty_scr, len_tup, len_lst, len_scr, len_dk, len_str, sl_tup, sl_lst, sl_scr, new_f, new_t, app_ref, ext_ref, ty_ref, src_tup, src_lst, src_scr, ix_q0, ix_q1, aZip, aZipS, aEnum, zip_tt, zip_ll, tup_l, tup_t, tup_r, ex2t, ex2, ex2n, ex3, aLRg1, mul_lst, pop_ref, gUnl, lsq_lst, aChain, aEnumX, enumX_t, enumX_l, mulX_tup, aTru, truD])
open K02
theorem odd_plain {n : Nat} {x : D} {T : String} (hg : goodB 4 x = true) (hT : ∀ st, tyName st x = some T) (hne : T ≠ "tuple") (hx : ∀ xs, x ≠ .tup xs) : Odd n x :=
  ⟨hg, fun st => .inl ⟨T, hT st, hne⟩, fun st => .inl ⟨rfl, ⟨T, hT st⟩, by cases x <;> first | rfl | exact absurd rfl (hx _)⟩, .inl ⟨T, hT, hne⟩⟩
section
variable {m a : Nat} {f : Nat → Rat}
theorem odd_row (h7 : m ≤ 7) : Odd m (.lst (rowL m f)) := odd_plain (T := "list") (by
  show (decide ((rowL m f).length ≤ 1000) && goodBs 3 (rowL m f)) = true
  rw [rowL_len, goodBs_of fun y hy => by obtain ⟨q, e⟩ := rowL_mem hy; rw [e]; exact goodB_q]
  simp; omega) (fun _ => rfl) (by decide) fun xs h => by cases h
theorem odd_none : Odd m .non := odd_plain (T := "NoneType") rfl (fun _ => rfl) (by decide) fun xs h => by cases h
theorem str_ones : goodB 4 (.str "one") = true ∧ goodB 4 (.str "first") = true ∧ goodB 4 (.str "refused") = true := by decide +kernel
theorem odd_one : Odd m (.str "one") := odd_plain (T := "str") str_ones.1 (fun _ => rfl) (by decide) fun xs h => by cases h
theorem odd_first : Odd m (.str "first") := odd_plain (T := "str") str_ones.2.1 (fun _ => rfl) (by decide) fun xs h => by cases h
theorem odd_five : Odd m (.int 5) := odd_plain (T := "int") rfl (fun _ => rfl) (by decide) fun xs h => by cases h
theorem odd_nil (m0 : 0 < m) : Odd m (.tup []) :=
  ⟨rfl, fun st => .inr ⟨[], rfl, .inl rfl⟩, fun st => .inl ⟨rfl, ⟨_, rfl⟩, by
    show decide ((([] : List D).length : Int) = (m : Int)) = false
    rw [decide_eq_false_iff_not]; simp; omega⟩, .inr ⟨[], rfl, by unfold flatBs; rfl, .inr rfl⟩⟩
theorem odd_double (hf : Dis m f) (ha : a < m) : Odd m (rp m f a (.tup [.int (2 * (f a).num), .int (2 * (f a).den)])) := by
  refine odd_set hf.1 hf.2.1 ha (by simp [itB, tyB, plainB, goodB, goodBs, flatB, flatBs]) ?_
  show (decide (0 < 2 * ((f a).den : Int)) && decide ((((2 * (f a).num).natAbs.gcd (2 * ((f a).den : Int)).natAbs : Nat) : Int) = 1) && (decide (0 ≤ 2 * (f a).num) && decide (2 * (f a).num ≤ 2 * ((f a).den : Int)))) = false
  have : (((2 * (f a).num).natAbs.gcd (2 * ((f a).den : Int)).natAbs : Nat) : Int) ≠ 1 := by
    rw [Int.natAbs_mul, Int.natAbs_mul, show (2 : Int).natAbs = 2 from rfl, Nat.gcd_mul_left]
    omega
  rw [decide_eq_false this, Bool.and_false, Bool.false_and]
theorem odd_neg (hf : Dis m f) : Odd m (.tup (List.replicate m (.tup [.int (-(f a).num), .int (-((f a).den : Int))]))) := by
  have hit : itB (.tup [.int (-(f a).num), .int (-((f a).den : Int))]) = true := by simp [itB, tyB, plainB, goodB, goodBs, flatB, flatBs]
  refine odd_bad (by simp) hf.1 hf.2.1 (fun y hy => by rw [(List.mem_replicate.mp hy).2]; exact hit) (t := .tup [.int (-(f a).num), .int (-((f a).den : Int))]) (List.mem_replicate.mpr ⟨by have := hf.1; omega, rfl⟩) ?_
  show (decide (0 < -((f a).den : Int)) && _ && _) = false
  rw [decide_eq_false (by omega), Bool.false_and, Bool.false_and]
theorem odd_rowW (hf : Dis m f) (ha : a < m) : Odd m (.tup (rowW m f a)) := by
  have ho : otr m a < m := Nat.mod_lt _ hf.1
  have hlt := lt_32 (hf.le1 ho)
  refine odd_bad (by unfold rowW; rw [List.length_set, List.length_set, rowL_len]) hf.1 hf.2.1 (fun y hy => ?_) (t := qD (f (otr m a) - q32)) (List.mem_of_getElem? (List.getElem?_set_self (by rw [List.length_set, rowL_len]; exact ho))) ?_
  · rcases List.mem_or_eq_of_mem_set hy with h | h
    · exact set_items it_q y h
    · rw [h]; exact it_q
  · rw [isPr_q, decide_eq_false_iff_not]
    intro h
    have := Rat.num_nonneg.mpr h.1
    omega
theorem near_menu (hf : Dis m f) (ha : a < m) : ∀ x ∈ N1 m f a ++ N2 m f a ++ N3 m f a ++ [.tup (rowW m f a)], NearOf m f x := by
  have m0 := hf.1
  have m7 := hf.2.1
  have st : ∀ t, itB t = true → isPr t = false → NearOf m f (rp m f a t) := fun t h1 h2 => .inr (.inr (odd_set m0 m7 ha h1 h2))
  intro x hx
  have hx : x = .lst (rowL m f) ∨ x = .tup (rowL m f ++ [qD 0]) ∨ x = .tup (rowL m f).dropLast ∨ x = .non ∨ x = .str "one" ∨ x = rp m f a (.tup [.int ((f a).num + 1), .int (f a).den]) ∨ x = rp m f a .non ∨
      x = rp m f a (.lst [.int (f a).num, .int (f a).den]) ∨ x = rp m f a (.tup [.int (2 * (f a).num), .int (2 * (f a).den)]) ∨ x = rp m f a (.tup [.int (f a).num, .int (f a).den, .int 0]) ∨
      x = rp m f a (.tup [.int (-1), .int 2]) ∨ x = (if ((f a).den : Int) = 1 then rp m f a (.tup [.int (f a).num, .bl true]) else .tup (List.replicate m (.tup [.int (-(f a).num), .int (-((f a).den : Int))]))) ∨ x = .tup [] ∨ x = .int 5 ∨ x = .tup (rowW m f a) := by
    simpa [N1, N2, N3, or_assoc] using hx
  rcases hx with h | h | h | h | h | h | h | h | h | h | h | h | h | h | h <;> subst h
  · exact .inr (.inr (odd_row m7))
  · exact .inl rfl
  · exact .inr (.inl rfl)
  · exact .inr (.inr odd_none)
  · exact .inr (.inr odd_one)
  · exact .inr (.inr (odd_up hf ha))
  · exact st _ rfl rfl
  · exact st _ (by simp [itB, tyB, plainB, goodB, goodBs, flatB, flatBs]) rfl
  · exact .inr (.inr (odd_double hf ha))
  · exact st _ (by simp [itB, tyB, plainB, goodB, goodBs, flatB, flatBs]) rfl
  · exact st _ (by simp [itB, tyB, plainB, goodB, goodBs, flatB, flatBs]) (by decide +kernel)
  · split
    · exact st _ (by simp [itB, tyB, plainB, goodB, goodBs, flatB, flatBs]) rfl
    · exact .inr (.inr (odd_neg hf))
  · exact .inr (.inr (odd_nil m0))
  · exact .inr (.inr odd_five)
  · exact .inr (.inr (odd_rowW hf ha))
end
theorem nR_ok {st0 st1 : Store} {n m a : Nat} {f : Nat → Rat} {N : Int} {L : List D} {w7 w8 : Option D} {Z : Store} {QA : D → Store → Prop} {EA : XD → Store → Prop} (hn : n < st0.length) (b : BoxTo st0 n N st1) (hN : N ≤ 2 ^ 35) (h7 : m ≤ 7) (hL : L ≠ []) (h20 : L.length ≤ 20) (hx : ∀ x ∈ L, NearOf m f x)
    (q : ∀ x st', NearOf m f x → BoxTo st0 n (N + 1) st' → QA x st') : nR (bodyK st0 QA EA) ⟨sN n m f a (some (.lst L)) w7 w8, st1 ++ Z⟩ := by
  have l0 : 0 < L.length := List.length_pos_iff.mpr hL
  unfold nR
  simp only [sN]
  walk_at "abw"
  refine run_takeB hn b (by omega) (by omega) (by omega) fun i st2 i0 i1 b2 => ?_
  obtain ⟨i, rfl⟩ := Int.eq_ofNat_of_zero_le i0
  have hi : i < L.length := by omega
  walk_at "abw"
  refine ⟨L[i], by rw [at_nat]; exact List.getElem?_eq_getElem hi, ?_⟩
  have hn := hx _ (List.getElem_mem hi)
  exact ret_val b2 (good_noRef (near_good h7 hn)) (q _ st2 hn b2)
theorem p_law_near : ∀ ds st0 QA EA, ds.length = 2 → asp_lnear ds st0 QA EA → t_law_near asp_take asp_add asp_sub (bodyK st0 QA EA) ⟨Ab.start 9 ds, st0⟩ := by
  intro ds st0 QA EA hl ⟨n, m, f, N, e, hf, hb, hN, q⟩
  subst e
  have hn := hb.lt
  have m0 := hf.1
  have m7 := hf.2.1
  refine (show aSeq _ (aSeq _ (aSeq _ (aSeq nM1 (aSeq nM2 (aSeq nM3 (aSeq nIf nR)))))) _ _ from ?_)
  rw [rowL_VD]
  walk_at "abw"
  rw [rowL_len]
  refine run_takeC hn hb.refl (by omega) (by omega) (by omega) fun at_ st1 a0 a1 b1 => ?_
  obtain ⟨a, rfl⟩ := Int.eq_ofNat_of_zero_le a0
  have ha : a < m := by omega
  rw [ix_tup]
  refine ⟨_, at_nat.trans (rowL_at ha), _, rfl, rfl, _, _, rfl, _, _, rfl, rfl, ?_⟩
  have l1 : (N1 m f a ++ N2 m f a ++ N3 m f a).length = 14 := rfl
  have nm := near_menu hf ha
  refine nM1_ok m0 m7 ha ?_
  show aSeq nM2 _ _ _
  rw [aSeq]
  refine nM2_ok hf ha ?_
  show aSeq nM3 _ _ _
  rw [aSeq]
  refine nM3_ok hf ha ?_
  show aSeq nIf _ _ _
  rw [aSeq]
  refine nIf_ok hf ha (by omega) (fun _ w7 w8 => ?_) (fun _ w7 w8 Z => ?_)
  · exact nR_ok hn b1 (by omega) m7 (by simp [N1]) (by omega) (fun x hx => nm x (List.mem_append_left _ hx)) fun x st' h b => q x st' h (b.mono (by omega))
  · exact nR_ok hn b1 (by omega) m7 (by simp [N1]) (by rw [List.length_append, l1]; simp) nm fun x st' h b => q x st' h (b.mono (by omega))
end K34
set_option Elab.async false
set_option linter.all false
set_option maxRecDepth 100000
set_option autoImplicit false
namespace K34
open PySem Ab K00
local macro_rules | `(tactic| walk_at "abq") => `(tactic| try simp [-Bool.exists_bool, -Bool.forall_bool, ↓exB, ↓iteB, aSeq, aAsg, aPar, aCB, aCons, aNil, aVar, aC, gName, aIfS, aTest, aNot, aAnd, aOr, aAndV, aOrV, aNotV, aIf, aOp, aUn, aRet, aTup, aLst, bodyK, Ab.start, List.replicate, aNext, aCall, aCallK, pick, aRaise, aRaise0, gSub, gTup, gNil, gCons, aExpr, aBM, aDk0, aLC, aSeqI, aSl, aPart, aNoPart, aRange1, aRange2, aFor, aYes, aPar3, wipeD, Tg.put, eqA_int, eqA_bl, eqA_nil, ix_tup, ix_lst, ix_scr, ix_ref, at_0, at_1, at_2, at_3, add_int, add_tup, add_str, add_lst, add_refl, mul_int, sub_int, fdiv_int, mod_int, pow_int, lt_int, le_int, gt_int, ge_int, neg_int, abs_int, gcd_int, max2_int, min2_int, int_int, int_bl, str_int, is_non, is_bl, isNonD, isi_ty, in_int, in_bool, in_str, in_tuple, in_list, in_dict, isiB, ty_non, ty_bl, ty_int, ty_str, ty_tup, ty_lst, ty_dk, ty_scr, len_tup, len_lst, len_scr, len_ref, len_dk, len_str, sl_tup, sl_lst, sl_scr, new_f, new_t, set_ref, app_ref, ext_ref, ty_ref, src_tup, src_lst, src_scr, ix_q0, ix_q1, aZip, aZipS, aEnum, zip_tt, zip_ll, tup_l, tup_t, tup_r, ex2t, ex2, ex2n, ex3, aLRg1, sum_ref, mul_lst, pop_ref, enum_ref, src_ref, gUnl, lsq_lst, aChain, aEnumX, enumX_t, enumX_l, mulX_tup, aTru, truD])
local macro_rules | `(tactic| walk_at "abw") => `(tactic| try simp [-Bool.exists_bool, -Bool.forall_bool, ↓exB, ↓iteB, aSeq, aAsg, aPar, aCB, aCons, aNil, aVar, aC, gName, aIfS, aTest, aNot, aAnd, aOr, aAndV, aOrV, aNotV, aIf, aOp, aUn, aRet, aTup, aLst, bodyK, Ab.start, List.replicate, aNext, aCall, aCallK, pick, aRaise, aRaise0, gSub, gTup, gNil, gCons, aExpr, aBM, aDk0, aLC, aSeqI, aSl, aPart, aNoPart, aRange1, aRange2, aFor, aYes, aPar3, wipeD, Tg.put, eqA_int, eqA_bl, eqA_nil, ix_tup, ix_lst, ix_scr, at_0, at_1, at_2, at_3, add_int, add_tup, add_str, add_lst, add_refl, mul_int, sub_int, fdiv_int, mod_int, pow_int, lt_int, le_int, gt_int, ge_int, neg_int, abs_int, gcd_int, max2_int, min2_int, int_int, int_bl, str_int, is_non, is_bl, isNonD, isi_ty, in_int, in_bool, in_str, in_tuple, in_list, in_dict, isiB, ty_non, ty_bl, ty_int, ty_str, ty_tup, ty_lst, ty_dk, ty_scr, len_tup, len_lst, len_scr, len_dk, len_str, sl_tup, sl_lst, sl_scr, new_f, new_t, app_ref, ext_ref, ty_ref, src_tup, src_lst, src_scr, ix_q0, ix_q1, aZip, aZipS, aEnum, zip_tt, zip_ll, tup_l, tup_t, tup_r, ex2t, ex2, ex2n, ex3, aLRg1, mul_lst, pop_ref, gUnl, lsq_lst, aChain, aEnumX, enumX_t, enumX_l, mulX_tup, aTru, truD])
open K02
def rI1 : AT := (aIfS (aAnd (aTest (aCB isiA (aCons (aVar 4) (aCons (aC (.ty "tuple")) aNil)))) (aAnd (aTest (aOp (eqA false) (aVar 4) (aSl (slA false) (aVar 1) aNoPart (aPart (aUn negA (aC (.int 1))))))) (aAnd (aTest (aOp gtA (aCB lenA (aCons (aVar 1) aNil)) (aC (.int 1)))) (aTest (aOp (eqA false) (aOp ixA (aVar 1) (aUn negA (aC (.int 1)))) (aTup (aCons (aC (.int 0)) (aCons (aC (.int 1)) aNil)))))))) (aAsg (aC .non) (gName 4)) aNext)
def rI2 : AT := (aIfS (aAnd (aTest (aCB isiA (aCons (aVar 4) (aCons (aC (.ty "tuple")) aNil)))) (aAnd (aTest (aOp (eqA false) (aVar 4) (aOp (addA false) (aVar 1) (aTup (aCons (aTup (aCons (aC (.int 0)) (aCons (aC (.int 1)) aNil))) aNil))))) (aTest (aOp ltA (aCB lenA (aCons (aVar 1) aNil)) (aC (.int 7)))))) (aAsg (aC (.str "first")) (gName 4)) aNext)
def rT (C : Addr) : AT := (aSeq (aIfS (aNot (aTest (aCall 2 (asp_same 5) (aCons (aCall 4 (asp_asked C) (aCons (aVar 3) (aCons (aVar 4) (aCons (aVar 5) (aCons (aOp (eqA false) (aVar 3) (aC (.int 1))) aNil))))) (aCons (aLst false (aCons (aC (.str "refused")) (aCons (aVar 4) aNil))) aNil))))) (aRet (aC (.bl false))) aNext) (aIfS (aNot (aTest (aCall 2 (asp_same 5) (aCons (aCall 4 (asp_asked C) (aCons (aVar 3) (aCons (aVar 1) (aCons (aVar 5) (aCons (aOp (eqA true) (aVar 3) (aC (.int 1))) aNil))))) (aCons (aLst false (aCons (aC (.str "refused")) (aCons (aVar 5) aNil))) aNil))))) (aRet (aC (.bl false))) aNext))
theorem toPys_len : ∀ {xs : List D} {ps : List PyData}, toPys xs = some ps → ps.length = xs.length
  | [], _, h => by simp [toPys] at h; subst h; rfl
  | x :: r, ps, h => by
    rw [toPys] at h
    split at h
    · obtain ⟨qs, h1, h2⟩ := Option.map_eq_some_iff.mp h
      rw [← h2, List.length_cons, List.length_cons, toPys_len h1]
    · cases h
theorem eqA_len {xs ys : List D} {st : Store} {Q : D → Store → Prop} (h1 : flatBs 60 xs = true) (h2 : flatBs 60 ys = true) (hl : xs.length ≠ ys.length) (q : Q (.bl false) st) : eqA false (.tup xs) (.tup ys) st Q := by
  obtain ⟨ps, a1, a2, a3⟩ := flats_py h1
  obtain ⟨qs, b1, b2, b3⟩ := flats_py h2
  have sh : ∀ ps, PyData.canLayAll0 ps = true → PyData.depthAll ps ≤ 60 → SeqAt.shaped (.tuple ps) = true := fun ps h1 h2 => by
    unfold SeqAt.shaped
    rw [PyData.canLay0, h1, PyData.depth]
    simp; omega
  refine ⟨.tuple ps, .tuple qs, by unfold look; rw [toPy, a1]; rfl, by unfold look; rw [toPy, b1]; rfl, sh ps a2 a3, sh qs b2 b3, ?_⟩
  have : PyData.eqv (.tuple ps) (.tuple qs) = false := by
    rw [PyData.eqv]
    exact SeqAt.eqvAll_other_length (by rw [toPys_len a1, toPys_len b1]; exact hl)
  rw [this]; simpa using q
theorem row_flat {n : Nat} {f : Nat → Rat} : flatBs 60 (rowL n f) = true := flatBs_of fun y hy => by obtain ⟨q, e⟩ := rowL_mem hy; rw [e]; simp [qD, flatB, flatBs]
theorem drop_flat {n : Nat} {f : Nat → Rat} : flatBs 60 (rowL n f).dropLast = true := flatBs_of fun y hy => by obtain ⟨q, e⟩ := rowL_mem (List.dropLast_subset _ hy); rw [e]; simp [qD, flatB, flatBs]
theorem more_flat {n : Nat} {f : Nat → Rat} : flatBs 60 (rowL n f ++ [qD 0]) = true := flatBs_of fun y hy => by
  rcases List.mem_append.mp hy with h | h
  · obtain ⟨q, e⟩ := rowL_mem h; rw [e]; simp [qD, flatB, flatBs]
  · rw [List.mem_singleton.mp h]; simp [qD, flatB, flatBs]
theorem eqA_tsame {xs : List D} {st : Store} {Q : D → Store → Prop} (h : flatBs 60 xs = true) (q : Q (.bl true) st) : eqA false (.tup xs) (.tup xs) st Q :=
  eqA_same (k := 61) (by decide) (by unfold flatB; exact h) (by simpa using q)
/-- a first value that is refused -/
def Fst (x : D) : Prop := goodB 4 x = true ∧ ∀ st, BadV st x
theorem near_isd {n : Nat} {f : Nat → Rat} {x : D} (h : NearOf n f x) (n0 : 0 < n) : ∀ st, IsD st n x false := by
  intro st
  rcases h with h | h | h
  · subst h
    refine .inl ⟨rfl, ⟨_, rfl⟩, ?_⟩
    show decide (((rowL n f ++ [qD 0]).length : Int) = n) = false
    rw [decide_eq_false_iff_not, List.length_append, rowL_len]; simp; omega
  · subst h
    refine .inl ⟨rfl, ⟨_, rfl⟩, ?_⟩
    show decide (((rowL n f).dropLast.length : Int) = n) = false
    rw [decide_eq_false_iff_not, List.length_dropLast, rowL_len]; omega
  · exact h.2.2.1 st
theorem fst_more {n : Nat} {f : Nat → Rat} (h7 : ¬ n < 7) (hn : n ≤ 7) : Fst (.tup (rowL n f ++ [qD 0])) :=
  ⟨near_good (n := n) (f := f) hn (.inl rfl), fun st => .inr ⟨_, rfl, .inr (.inl (by rw [List.length_append, rowL_len]; simp; omega))⟩⟩
theorem fst_less {n : Nat} {f : Nat → Rat} (hf : Dis n f) (h : ¬ (1 < n ∧ f (n - 1) = 0)) : Fst (.tup (rowL n f).dropLast) := by
  have hf' := hf
  obtain ⟨n0, n7, f0, fs, D, D0, hD, hg⟩ := hf'
  refine ⟨near_good (n := n) (f := f) n7 (.inr (.inl rfl)), fun st => .inr ⟨_, rfl, ?_⟩⟩
  by_cases h1 : 1 < n
  · refine .inr (.inr ?_)
    have hz : f (n - 1) ≠ 0 := fun z => h ⟨h1, z⟩
    have hl : (rowL n f).dropLast.length = n - 1 := by rw [List.length_dropLast, rowL_len]
    have e : (rowL n f).dropLast = ((List.range (n - 1)).map f).map qD := by
      rw [List.dropLast_eq_take, rowL_len]
      unfold rowL
      rw [← List.map_take, List.take_range, List.map_map, Nat.min_eq_left (by omega)]
      rfl
    refine .inr (.inr ⟨(List.range (n - 1)).map f, by rw [e], by rw [hl]; simp, fun q hq => ?_, ?_, ?_⟩)
    · obtain ⟨i, hi, e⟩ := List.mem_map.mp hq
      have hi := List.mem_range.mp hi
      subst e
      exact ⟨f0 i (by omega), hf.le1 (by omega)⟩
    · exact sumOk_of (D := D) (b := D) (by simp; omega) D0 (Nat.le_trans hD (Nat.pow_le_pow_right (by decide) (by decide))) (Nat.le_trans hD (Nat.pow_le_pow_right (by decide) (by decide))) fun q hq => by
        obtain ⟨i, hi, e⟩ := List.mem_map.mp hq
        have hi := List.mem_range.mp hi
        subst e
        exact hg i (by omega)
    · have : sumF n f = sumF (n - 1) f + f (n - 1) := by
        conv => lhs; rw [show n = (n - 1) + 1 by omega]
        exact sumF_succ
      rw [fs] at this
      symm
      rw [decide_eq_false_iff_not]
      intro z
      have z : sumF (n - 1) f = 1 := z
      rw [z] at this
      exact hz (by grind)
  · exact .inl (by rw [List.length_dropLast, rowL_len]; omega)
abbrev sR (n m : Nat) (f g : Nat → Rat) (t : Nat) (x y : D) : List (Option D) := [some (.ref n), some (.tup (rowL m f)), some (.tup (rowL m g)), some (.int t), some x, some y]
def Tl (k : Nat) (x : D) : Prop := (∃ T, (∀ st, tyName st x = some T) ∧ T ≠ "tuple") ∨ ∃ ys, x = .tup ys ∧ flatBs 60 ys = true ∧ ys.length ≠ k
def Mid (m : Nat) (f : Nat → Rat) (x : D) : Prop := x = .tup (rowL m f ++ [qD 0]) ∨ (Fst x ∧ Tl (m + 1) x)
theorem Odd.fst {n : Nat} {x : D} (h : Odd n x) : Fst x := ⟨h.1, h.2.1⟩
theorem rI1_ok {n m t : Nat} {f g : Nat → Rat} {x y : D} {st : Store} {E : AK} (hf : Dis m f) (hx : NearOf m f x) (h : ∀ x', Mid m f x' → E.nx ⟨sR n m f g t x' y, st⟩) : rI1 E ⟨sR n m f g t x y, st⟩ := by
  have m0 := hf.1
  have m7 := hf.2.1
  have hlast : cutD (rowL m f) none (some (-1)) = (rowL m f).dropLast := cut_last (by rw [rowL_len]; exact m0)
  have ld : (rowL m f).dropLast.length = m - 1 := by rw [List.length_dropLast, rowL_len]
  have lm : (rowL m f ++ [qD 0]).length = m + 1 := by rw [List.length_append, rowL_len]; rfl
  unfold rI1
  simp only [sR] at *
  walk_at "abw"
  rw [hlast, rowL_len]
  rcases hx with hx | hx | hx
  · subst hx
    refine ⟨_, rfl, fun _ => ?_, fun z => absurd rfl z⟩
    refine eqA_len more_flat drop_flat (by omega) ?_
    exact ⟨false, rfl, fun z => (by cases z), fun _ => h _ (.inl rfl)⟩
  · subst hx
    have keep : ¬ (1 < m ∧ f (m - 1) = 0) → Mid m f (.tup (rowL m f).dropLast) := fun z => .inr ⟨fst_less hf z, .inr ⟨_, rfl, drop_flat, by omega⟩⟩
    refine ⟨_, rfl, fun _ => ?_, fun z => absurd rfl z⟩
    refine eqA_tsame drop_flat ?_
    refine ⟨true, rfl, fun _ => ⟨fun h1 => ?_, fun h1 => h _ (keep fun z => by omega)⟩, fun z => (by cases z)⟩
    have h1 : 1 < m := by omega
    refine ⟨qD (f (m - 1)), ?_, sz2, ?_⟩
    · unfold L2.atI L2.ixN
      rw [if_neg (by decide), rowL_len, if_pos (by omega)]
      show (rowL m f)[((m : Int) + -1).toNat]? = _
      rw [show ((m : Int) + -1).toNat = m - 1 by omega]
      exact rowL_at (by omega)
    · rw [q_zero]
      refine qD_eq ?_
      walk_at "abw"
      exact ⟨fun _ => h _ (.inr ⟨⟨rfl, fun st => .inl ⟨_, rfl, by decide⟩⟩, .inl ⟨_, fun _ => rfl, by decide⟩⟩), fun hz => h _ (keep fun z => hz z.2)⟩
  · have hfst := hx.fst
    rcases hx.2.2.2 with ⟨T, hT, hne⟩ | ⟨ys, e, hfl, hl⟩
    · exact ⟨T, hT st, fun z => absurd z hne, fun _ => h _ (.inr ⟨hfst, .inl ⟨T, hT, hne⟩⟩)⟩
    · have mid : Mid m f x := .inr ⟨hfst, .inr ⟨ys, e, hfl, by rcases hl with hl | hl <;> (try subst hl) <;> simp <;> omega⟩⟩
      subst e
      refine ⟨_, rfl, fun _ => ?_, fun z => absurd rfl z⟩
      by_cases h1 : ys.length = (rowL m f).dropLast.length
      · have hy : ys = [] := by
          rcases hl with hl | hl
          · rw [hl, ld] at h1; omega
          · exact hl
        subst hy
        have hm1 : m = 1 := by rw [ld] at h1; simp at h1; omega
        have hd : (rowL m f).dropLast = [] := List.eq_nil_of_length_eq_zero (by rw [ld]; omega)
        rw [hd]
        refine eqA_tsame hfl ?_
        exact ⟨true, rfl, fun _ => ⟨fun z => by omega, fun _ => h _ mid⟩, fun z => (by cases z)⟩
      · refine eqA_len hfl drop_flat h1 ?_
        exact ⟨false, rfl, fun z => (by cases z), fun _ => h _ mid⟩
theorem rI2_ok {n m t : Nat} {f g : Nat → Rat} {x y : D} {st : Store} {E : AK} (hf : Dis m f) (hx : Mid m f x) (h : ∀ x', Fst x' → E.nx ⟨sR n m f g t x' y, st⟩) : rI2 E ⟨sR n m f g t x y, st⟩ := by
  have m0 := hf.1
  have m7 := hf.2.1
  have lm : (rowL m f ++ [qD 0]).length = m + 1 := by rw [List.length_append, rowL_len]; rfl
  unfold rI2
  simp only [sR] at *
  walk_at "abw"
  rw [q_zero, rowL_len]
  rcases hx with hx | ⟨hfst, ⟨T, hT, hne⟩ | ⟨ys, e, hfl, hl⟩⟩
  · subst hx
    refine ⟨_, rfl, fun _ => ⟨sz2, sz_le (by omega), sz_le (by omega), ?_⟩, fun z => absurd rfl z⟩
    refine eqA_tsame more_flat ?_
    exact ⟨true, rfl, fun _ => ⟨fun _ => h _ (odd_first (m := m)).fst, fun z => h _ (fst_more (by omega) m7)⟩, fun z => (by cases z)⟩
  · exact ⟨T, hT st, fun z => absurd z hne, fun _ => h _ hfst⟩
  · subst e
    refine ⟨_, rfl, fun _ => ⟨sz2, sz_le (by omega), sz_le (by omega), ?_⟩, fun z => absurd rfl z⟩
    refine eqA_len hfl more_flat (by omega) ?_
    exact ⟨false, rfl, fun z => (by cases z), fun _ => h _ hfst⟩
end K34
set_option Elab.async false
set_option linter.all false
set_option maxRecDepth 100000
set_option autoImplicit false
namespace K34
open PySem Ab K00
local macro_rules | `(tactic| walk_at "abq") => `(tactic| try simp [-Bool.exists_bool, -Bool.forall_bool, ↓exB, ↓iteB, aSeq, aAsg, aPar, aCB, aCons, aNil, aVar, aC, gName, aIfS, aTest, aNot, aAnd, aOr, aAndV, aOrV, aNotV, aIf, aOp, aUn, aRet, aTup, aLst, bodyK, Ab.start, List.replicate, aNext, aCall, aCallK, pick, aRaise, aRaise0, gSub, gTup, gNil, gCons, aExpr, aBM, aDk0, aLC, aSeqI, aSl, aPart, aNoPart, aRange1, aRange2, aFor, aYes, aPar3, wipeD, Tg.put, eqA_int, eqA_bl, eqA_nil, ix_tup, ix_lst, ix_scr, ix_ref, at_0, at_1, at_2, at_3, add_int, add_tup, add_str, add_lst, add_refl, mul_int, sub_int, fdiv_int, mod_int, pow_int, lt_int, le_int, gt_int, ge_int, neg_int, abs_int, gcd_int, max2_int, min2_int, int_int, int_bl, str_int, is_non, is_bl, isNonD, isi_ty, in_int, in_bool, in_str, in_tuple, in_list, in_dict, isiB, ty_non, ty_bl, ty_int, ty_str, ty_tup, ty_lst, ty_dk, ty_scr, len_tup, len_lst, len_scr, len_ref, len_dk, len_str, sl_tup, sl_lst, sl_scr, new_f, new_t, set_ref, app_ref, ext_ref, ty_ref, src_tup, src_lst, src_scr, ix_q0, ix_q1, aZip, aZipS, aEnum, zip_tt, zip_ll, tup_l, tup_t, tup_r, ex2t, ex2, ex2n, ex3, aLRg1, sum_ref, mul_lst, pop_ref, enum_ref, src_ref, gUnl, lsq_lst, aChain, aEnumX, enumX_t, enumX_l, mulX_tup, aTru, truD])
local macro_rules | `(tactic| walk_at "abw") => `(tactic| try simp [-Bool.exists_bool, -Bool.forall_bool, ↓exB, ↓iteB, aSeq, aAsg, aPar, aCB, aCons, aNil, aVar, aC, gName, aIfS, aTest, aNot, aAnd, aOr, aAndV, aOrV, aNotV, aIf, aOp, aUn, aRet, aTup, aLst, bodyK, Ab.start, List.replicate, aNext, aCall, aCallK, pick, aRaise, aRaise0, gSub, gTup, gNil, gCons, aExpr, aBM, aDk0, aLC, aSeqI, aSl, aPart, aNoPart, aRange1, aRange2, aFor, aYes, aPar3, wipeD, Tg.put, eqA_int, eqA_bl, eqA_nil, ix_tup, ix_lst, ix_scr, at_0, at_1, at_2, at_3, add_int, add_tup, add_str, add_lst, add_refl, mul_int, sub_int, fdiv_int, mod_int, pow_int, lt_int, le_int, gt_int, ge_int, neg_int, abs_int, gcd_int, max2_int, min2_int, int_int, int_bl, str_int, is_non, is_bl, isNonD, isi_ty, in_int, in_bool, in_str, in_tuple, in_list, in_dict, isiB, ty_non, ty_bl, ty_int, ty_str, ty_tup, ty_lst, ty_dk, ty_scr, len_tup, len_lst, len_scr, len_dk, len_str, sl_tup, sl_lst, sl_scr, new_f, new_t, app_ref, ext_ref, ty_ref, src_tup, src_lst, src_scr, ix_q0, ix_q1, aZip, aZipS, aEnum, zip_tt, zip_ll, tup_l, tup_t, tup_r, ex2t, ex2, ex2n, ex3, aLRg1, mul_lst, pop_ref, gUnl, lsq_lst, aChain, aEnumX, enumX_t, enumX_l, mulX_tup, aTru, truD])
open K02
theorem run_same5 {x : D} {st : Store} {Q : D → Store → Prop} {X : XD → Store → Prop} (h : goodB 5 x = true) (q : Q (.bl true) st) : asp_same 5 [x, x] st Q X := by rw [run_same h]; exact q
theorem good_ref {x : D} (h : goodB 4 x = true) : goodB 5 (.lst [.str "refused", x]) = true := by
  show (decide (([.str "refused", x] : List D).length ≤ 1000) && goodBs 4 [.str "refused", x]) = true
  unfold goodBs
  unfold goodBs
  rw [str_ones.2.2, h]
  simp [goodBs]
theorem rT_ok {C : Addr} {n m t : Nat} {f g : Nat → Rat} {x y : D} {st : Store} {E : AK} (hf : Dis m f) (ht : t < 3) (hx : Fst x) (hy : NearOf m g y) (hg : Dis m g) (h : E.nx ⟨sR n m f g t x y, st⟩) : rT C E ⟨sR n m f g t x y, st⟩ := by
  have gy := near_good hg.2.1 hy
  have chk1 : ∀ (R : Nat → (Nat → Rat) → (Nat → Rat) → D) (Q : D → Store → Prop) E, E ⟨.ref C, [("given", x)]⟩ st → Chk C R [x, y] st Q E := fun R Q E q => ⟨x, y, rfl, .inr (.inl ⟨hx.2 st, q⟩)⟩
  have chk2 : ∀ (R : Nat → (Nat → Rat) → (Nat → Rat) → D) (Q : D → Store → Prop) E, E ⟨.ref C, [("given", y)]⟩ st → Chk C R [.tup (rowL m f), y] st Q E := fun R Q E q => ⟨_, y, rfl, .inr (.inr ⟨m, f, rowL_VD.symm, hf, near_isd hy hg.1 st, q⟩)⟩
  unfold rT
  simp only [sR] at *
  walk_at "abw"
  refine ⟨t, x, y, _, rfl, by omega, by omega, chk1 _ _ _ ⟨x, rfl, sz2, ?_⟩⟩
  refine run_same5 (good_ref hx.1) ?_
  walk_at "abw"
  refine ⟨t, _, y, _, rfl, by omega, by omega, chk2 _ _ _ ⟨y, rfl, sz2, ?_⟩⟩
  refine run_same5 (good_ref gy) ?_
  walk_at "abw"
  exact h
def asp_refusals : ASp := fun ds st QA _ => ∃ n m f g N, ds = [.ref n, VD m f, VD m g] ∧ Dis m f ∧ Dis m g ∧ BoxAt st n N ∧ N ≤ 2 ^ 30 ∧ ∀ st', BoxTo st n (N + 20) st' → QA (.bl true) st'
theorem p_law_refusals_right {C : Addr} : ∀ ds st0 QA EA, ds.length = 3 → asp_refusals ds st0 QA EA → t_law_refusals_right asp_lnear (asp_same 5) (asp_asked C) (bodyK st0 QA EA) ⟨Ab.start 6 ds, st0⟩ := by
  intro ds st0 QA EA hl ⟨n, m, f, g, N, e, hf, hg, hb, hN, q⟩
  subst e
  have hn := hb.lt
  refine (show aSeq (aFor _ _ (aSeq _ (aSeq rI1 (aSeq rI2 (rT C))))) _ _ _ from ?_)
  rw [rowL_VD, rowL_VD]
  walk_at "abw"
  refine forL_ix (I := fun k S => ∃ w3 w4 w5 st1, S = ⟨[some (.ref n), some (.tup (rowL m f)), some (.tup (rowL m g)), w3, w4, w5], st1⟩ ∧ BoxTo st0 n (N + 4 * k) st1) _ 0 (fun t d hd K hK S hS => ?_) (fun S hS => ?_) _ ⟨none, none, none, st0, rfl, by simpa using hb.refl⟩
  · obtain ⟨e, ht⟩ := rg_at hd
    subst e
    rw [Nat.zero_add] at *
    obtain ⟨w3, w4, w5, st1, e, b⟩ := hS
    subst e
    walk_at "abw"
    refine ⟨n, m, f, _, rfl, hf, b.at hn, by omega, fun x st2 hx b2 => ?_⟩
    have b2 := b.trans b2
    walk_at "abw"
    refine ⟨n, m, g, _, rfl, hg, b2.at hn, by omega, fun y st3 hy b3 => ?_⟩
    have b3 := b2.trans b3
    walk_at "abw"
    refine rI1_ok (f := f) hf hx fun x' hx' => ?_
    show aSeq rI2 _ _ _
    rw [aSeq]
    refine rI2_ok hf hx' fun x2 hx2 => ?_
    exact rT_ok hf ht hx2 hy hg (hK _ ⟨_, _, _, st3, rfl, b3.mono (by omega)⟩)
  · obtain ⟨w3, w4, w5, st1, e, b⟩ := hS
    subst e
    rw [rg_len] at b
    walk_at "abw"
    exact .inl (q st1 (b.mono (by omega)))
/-! the law -/
def asp_lright : ASp := fun ds st QA _ => ∃ n N, ds = [.ref n] ∧ BoxAt st n N ∧ N ≤ 2 ^ 20 ∧ ∀ st', BoxTo st n (N + 1000) st' → QA (.bl true) st'
theorem size34 {x y : Int} (h0 : 0 ≤ x) (h1 : x < 8) (y0 : 0 ≤ y) (y1 : y < 2) : ∃ s : Nat, L2.atI [D.int 2, D.int 3, D.int 4, D.int 3, D.int 5, D.int 2, D.int 1, D.int (6 + y)] x = some (.int s) ∧ 0 < s ∧ s ≤ 7 := by
  obtain ⟨k, rfl⟩ := Int.eq_ofNat_of_zero_le h0
  have : k = 0 ∨ k = 1 ∨ k = 2 ∨ k = 3 ∨ k = 4 ∨ k = 5 ∨ k = 6 ∨ k = 7 := by omega
  rcases this with h | h | h | h | h | h | h | h <;> subst h
  · exact ⟨2, rfl, by decide⟩
  · exact ⟨3, rfl, by decide⟩
  · exact ⟨4, rfl, by decide⟩
  · exact ⟨3, rfl, by decide⟩
  · exact ⟨5, rfl, by decide⟩
  · exact ⟨2, rfl, by decide⟩
  · exact ⟨1, rfl, by decide⟩
  · exact ⟨(6 + y).toNat, by rw [show (((6 + y).toNat : Nat) : Int) = 6 + y by omega]; rfl, by omega, by omega⟩
def posS (m : Nat) (f g : Nat → Rat) : Rat := sumF m fun k => posQ (f k - g k)
theorem diff_zero {m : Nat} {f g : Nat → Rat} (hf : Dis m f) (hg : Dis m g) : sumF m (fun k => f k - g k) = 0 := by
  have h1 : sumF m f = 1 := hf.2.2.2.1
  have h2 : sumF m g = 1 := hg.2.2.2.1
  have e : ∀ k, f k - g k = f k + (-1) * g k := fun k => by grind
  unfold sumF at *
  simp only [e]
  rw [sumQ_add, sumQ_mul, h1, h2]
  decide +kernel
theorem far_most {m : Nat} {f g : Nat → Rat} (hf : Dis m f) (hg : Dis m g) : sumF m (fun i => absQ (f i - g i)) * half = posS m f g := vary_eq (diff_zero hf hg)
theorem vary_pos {m : Nat} {f g : Nat → Rat} (hf : Dis m f) (hg : Dis m g) : varyQ m f g = posS m f g := by
  unfold varyQ
  rw [Rat.mul_comm]
  exact far_most hf hg
theorem absQ_neg (x : Rat) : absQ (-x) = absQ x := by unfold absQ; split <;> split <;> grind
theorem pos_sym {m : Nat} {f g : Nat → Rat} (hf : Dis m f) (hg : Dis m g) : posS m g f = posS m f g := by
  rw [← far_most hf hg, ← far_most hg hf]
  congr 1
  unfold sumF
  congr 1
  exact List.map_congr_left fun i _ => by rw [show g i - f i = -(f i - g i) by grind, absQ_neg]
theorem ev_best {m : Nat} {f g : Nat → Rat} : evQ f g ((List.range m).filter fun k => decide (g k < f k)) = posS m f g := by
  unfold evQ posS sumF
  rw [← ev_pos (fun k => f k - g k)]
  congr 2
  exact List.filter_congr fun k _ => decide_eq_decide.mpr ⟨fun h => by grind, fun h => by grind⟩
end K34
set_option Elab.async false
set_option linter.all false
set_option maxRecDepth 100000
set_option autoImplicit false
namespace K34
open PySem Ab K00
local macro_rules | `(tactic| walk_at "abq") => `(tactic| try simp [-Bool.exists_bool, -Bool.forall_bool, ↓exB, ↓iteB, aSeq, aAsg, aPar, aCB, aCons, aNil, aVar, aC, gName, aIfS, aTest, aNot, aAnd, aOr, aAndV, aOrV, aNotV, aIf, aOp, aUn, aRet, aTup, aLst, bodyK, Ab.start, List.replicate, aNext, aCall, aCallK, pick, aRaise, aRaise0, gSub, gTup, gNil, gCons, aExpr, aBM, aDk0, aLC, aSeqI, aSl, aPart, aNoPart, aRange1, aRange2, aFor, aYes, aPar3, wipeD, Tg.put, eqA_int, eqA_bl, eqA_nil, ix_tup, ix_lst, ix_scr, ix_ref, at_0, at_1, at_2, at_3, add_int, add_tup, add_str, add_lst, add_refl, mul_int, sub_int, fdiv_int, mod_int, pow_int, lt_int, le_int, gt_int, ge_int, neg_int, abs_int, gcd_int, max2_int, min2_int, int_int, int_bl, str_int, is_non, is_bl, isNonD, isi_ty, in_int, in_bool, in_str, in_tuple, in_list, in_dict, isiB, ty_non, ty_bl, ty_int, ty_str, ty_tup, ty_lst, ty_dk, ty_scr, len_tup, len_lst, len_scr, len_ref, len_dk, len_str, sl_tup, sl_lst, sl_scr, new_f, new_t, set_ref, app_ref, ext_ref, ty_ref, src_tup, src_lst, src_scr, ix_q0, ix_q1, aZip, aZipS, aEnum, zip_tt, zip_ll, tup_l, tup_t, tup_r, ex2t, ex2, ex2n, ex3, aLRg1, sum_ref, mul_lst, pop_ref, enum_ref, src_ref, gUnl, lsq_lst, aChain, aEnumX, enumX_t, enumX_l, mulX_tup, aTru, truD])
local macro_rules | `(tactic| walk_at "abw") => `(tactic| try simp [-Bool.exists_bool, -Bool.forall_bool, ↓exB, ↓iteB, aSeq, aAsg, aPar, aCB, aCons, aNil, aVar, aC, gName, aIfS, aTest, aNot, aAnd, aOr, aAndV, aOrV, aNotV, aIf, aOp, aUn, aRet, aTup, aLst, bodyK, Ab.start, List.replicate, aNext, aCall, aCallK, pick, aRaise, aRaise0, gSub, gTup, gNil, gCons, aExpr, aBM, aDk0, aLC, aSeqI, aSl, aPart, aNoPart, aRange1, aRange2, aFor, aYes, aPar3, wipeD, Tg.put, eqA_int, eqA_bl, eqA_nil, ix_tup, ix_lst, ix_scr, at_0, at_1, at_2, at_3, add_int, add_tup, add_str, add_lst, add_refl, mul_int, sub_int, fdiv_int, mod_int, pow_int, lt_int, le_int, gt_int, ge_int, neg_int, abs_int, gcd_int, max2_int, min2_int, int_int, int_bl, str_int, is_non, is_bl, isNonD, isi_ty, in_int, in_bool, in_str, in_tuple, in_list, in_dict, isiB, ty_non, ty_bl, ty_int, ty_str, ty_tup, ty_lst, ty_dk, ty_scr, len_tup, len_lst, len_scr, len_dk, len_str, sl_tup, sl_lst, sl_scr, new_f, new_t, app_ref, ext_ref, ty_ref, src_tup, src_lst, src_scr, ix_q0, ix_q1, aZip, aZipS, aEnum, zip_tt, zip_ll, tup_l, tup_t, tup_r, ex2t, ex2, ex2n, ex3, aLRg1, mul_lst, pop_ref, gUnl, lsq_lst, aChain, aEnumX, enumX_t, enumX_l, mulX_tup, aTru, truD])
open K02
def rB (C : Addr) : AT := (aSeq (aAsg (aOp (eqA false) (aCall 2 asp_take (aCons (aVar 0) (aCons (aC (.int 2)) aNil))) (aC (.int 0))) (gName 9)) (aSeq (aIfS (aOr (aNot (aTest (aCall 2 (asp_same 5) (aCons (aCall 4 (asp_asked C) (aCons (aC (.int 0)) (aCons (aVar 7) (aCons (aVar 8) (aCons (aVar 9) aNil))))) (aCons (aVar 4) aNil))))) (aNot (aTest (aCall 2 (asp_same 5) (aCons (aCall 4 (asp_asked C) (aCons (aC (.int 2)) (aCons (aVar 7) (aCons (aVar 8) (aCons (aNotV (aVar 9)) aNil))))) (aCons (aCall 2 asp_apart (aCons (aVar 7) (aCons (aVar 8) aNil))) aNil)))))) (aRet (aC (.bl false))) aNext) (aSeq (aAsg (aCall 4 (asp_asked C) (aCons (aC (.int 1)) (aCons (aVar 7) (aCons (aVar 8) (aCons (aVar 9) aNil))))) (gName 10)) (aIfS (aOr (aNot (aTest (aCall 2 asp_set (aCons (aVar 1) (aCons (aVar 10) aNil))))) (aOr (aTest (aOp (eqA true) (aCall 3 asp_lev (aCons (aVar 7) (aCons (aVar 8) (aCons (aVar 10) aNil)))) (aVar 4))) (aNot (aTest (aCall 2 (asp_same 5) (aCons (aCall 4 (asp_asked C) (aCons (aC (.int 1)) (aCons (aVar 7) (aCons (aVar 8) (aCons (aNotV (aVar 9)) aNil))))) (aCons (aVar 10) aNil))))))) (aRet (aC (.bl false))) aNext))))
abbrev sX (n m : Nat) (F f g : D) (w6 w7 w8 w9 w10 : Option D) : List (Option D) := [some (.ref n), some (.int m), some f, some g, some F, some F, w6, w7, w8, w9, w10]
theorem rB_ok {C : Addr} {st0 st1 : Store} {n m : Nat} {N : Int} {f g : Nat → Rat} {F o1 o2 : D} {w6 w9 w10 : Option D} {E : AK} (hn : n < st0.length) (b : BoxTo st0 n N st1) (hN : N ≤ 2 ^ 30) (hf : Dis m f) (hg : Dis m g) (hF : F = qD (posS m f g))
    (h : ∀ w9 w10 st', BoxTo st0 n (N + 1) st' → E.nx ⟨sX n m F o1 o2 w6 (some (VD m f)) (some (VD m g)) w9 w10, st'⟩) : rB C E ⟨sX n m F o1 o2 w6 (some (VD m f)) (some (VD m g)) w9 w10, st1⟩ := by
  have m9 : m ≤ 9 := by have := hf.2.1; omega
  have hdg := hf.dg hg
  have ask : ∀ (t : Int) (b : Bool) (Q : D → Store → Prop) X st, 0 ≤ t → t < 3 → Q (Rt t m f g) st → asp_asked C [.int t, VD m f, VD m g, .bl b] st Q X := fun t b Q X st t0 t3 q => ⟨t, _, _, b, rfl, t0, t3, _, _, rfl, .inl ⟨m, f, g, rfl, rfl, hf, hg, q⟩⟩
  have hne := apart_ne (f := f) hg.2.2.2.1
  have e0 : Rt 0 m f g = F := by rw [hF]; show qD (varyQ m f g) = _; rw [vary_pos hf hg]
  have e2 : Rt 2 m f g = apD (apartL m f g) := by show qD _ = _; unfold apD; rw [if_neg hne]
  have e1 : Rt 1 m f g = .tup (natL ((List.range m).filter fun k => decide (g k < f k))) := rfl
  have hL : ((List.range m).filter fun k => decide (g k < f k)).length ≤ 9 := Nat.le_trans (List.length_filter_le _ _) (by simpa using m9)
  have hk : ∀ k ∈ (List.range m).filter (fun k => decide (g k < f k)), k < m := fun k hk => List.mem_range.mp (List.mem_filter.mp hk).1
  have hpw : ((List.range m).filter fun k => decide (g k < f k)).Pairwise (· < ·) := List.Pairwise.filter _ List.pairwise_lt_range
  have gF : goodB 5 F = true := by rw [hF]; exact goodB_q
  have g2 : goodB 5 (apD (apartL m f g)) = true := by unfold apD; rw [if_neg hne]; exact goodB_q
  have g1 : goodB 5 (.tup (natL ((List.range m).filter fun k => decide (g k < f k)))) = true := by
    show (decide ((natL _).length ≤ 1000) && goodBs 4 (natL _)) = true
    rw [natL_len, goodBs_of fun y hy => by
      obtain ⟨i, _, e⟩ := List.mem_map.mp hy
      rw [← e]; rfl]
    simp; omega
  unfold rB
  simp only [sX] at *
  walk_at "abw"
  refine run_takeC hn b (by omega) (by omega) (by omega) fun x st2 x0 x1 b2 => ?_
  walk_at "abw"
  refine ask 0 _ _ _ _ (by omega) (by omega) ?_
  rw [e0]
  refine run_same5 gF ?_
  walk_at "abw"
  refine ask 2 _ _ _ _ (by omega) (by omega) ?_
  rw [e2]
  refine ⟨m, f, g, rfl, hdg, hg.2.2.1, ?_⟩
  refine run_same5 g2 ?_
  walk_at "abw"
  refine ask 1 _ _ _ _ (by omega) (by omega) ?_
  rw [e1]
  refine ⟨m, _, rfl, hL, hk, hpw, ?_⟩
  walk_at "abw"
  refine run_lev (.inr rfl) hdg hL hk ?_
  rw [ev_best, hF]
  refine qD_eq ?_
  walk_at "abw"
  refine ask 1 _ _ _ _ (by omega) (by omega) ?_
  rw [e1]
  refine run_same5 g1 ?_
  walk_at "abw"
  rw [hF] at h
  exact h _ _ st2 b2
theorem p_law_right {C : Addr} : ∀ ds st0 QA EA, ds.length = 1 → asp_lright ds st0 QA EA → t_law_right asp_take asp_lpair asp_lvary asp_most (asp_same 5) asp_apart (asp_asked C) asp_lev asp_set asp_refusals (bodyK st0 QA EA) ⟨Ab.start 11 ds, st0⟩ := by
  intro ds st0 QA EA hl ⟨n, N, e, hb, hN, q⟩
  subst e
  have hn := hb.lt
  refine (show aSeq _ (aSeq _ (aSeq _ (aSeq _ (aSeq (aFor _ _ (aSeq _ (rB C))) _)))) _ _ from ?_)
  walk_at "abw"
  refine run_takeC hn hb.refl (by omega) (by omega) (by omega) fun y st1 y0 y1 b1 => ?_
  walk_at "abw"
  refine ⟨sz_le (by omega), ?_⟩
  refine run_takeC hn b1 (by omega) (by omega) (by omega) fun x st2 x0 x1 b2 => ?_
  walk_at "abw"
  obtain ⟨m, e, m0, m7⟩ := size34 x0 x1 y0 y1
  refine ⟨_, e, ?_⟩
  refine ⟨n, m, _, rfl, b2.at hn, by omega, m0, m7, fun ws vs st3 hw hv b3 => ?_⟩
  have b3 := b2.trans b3
  have hf := gw_dis m0 m7 hw
  have hg := gw_dis m0 m7 hv
  rw [shD_VD hw.1, shD_VD hv.1]
  generalize rowF ws = f at *
  generalize rowF vs = g at *
  have hdg := hf.dg hg
  walk_at "abw"
  refine ⟨m, f, g, rfl, hdg, ?_⟩
  refine ⟨m, f, g, rfl, hdg, ?_⟩
  rw [far_most hf hg, show (sumF m fun k => posQ (f k - g k)) = posS m f g from rfl]
  refine qD_eq ?_
  walk_at "abw"
  refine forL_ix (I := fun k S => ∃ w6 w7 w8 w9 w10 st1, S = ⟨[some (.ref n), some (.int m), some (VD m f), some (VD m g), some (qD (posS m f g)), some (qD (posS m f g)), w6, w7, w8, w9, w10], st1⟩ ∧ BoxTo st0 n (N + 300 + k) st1) _ 0 (fun t d hd K hK S hS => ?_) (fun S hS => ?_) _ ⟨none, none, none, none, none, st3, rfl, b3.mono (by omega)⟩
  · obtain ⟨e, ht⟩ := rg_at hd
    subst e
    rw [Nat.zero_add] at *
    obtain ⟨w6, w7, w8, w9, w10, st1, e, b⟩ := hS
    subst e
    have ht2 : t = 0 ∨ t = 1 := by omega
    rcases ht2 with h | h <;> subst h
    · walk_at "abw"
      refine ⟨sz2, ?_⟩
      refine rB_ok hn b (by omega) hf hg rfl fun w9 w10 st' b' => ?_
      exact hK _ ⟨_, _, _, _, _, st', rfl, b'.mono (by omega)⟩
    · walk_at "abw"
      refine ⟨sz2, ?_⟩
      refine rB_ok hn b (by omega) hg hf (by rw [pos_sym hf hg]) fun w9 w10 st' b' => ?_
      exact hK _ ⟨_, _, _, _, _, st', rfl, b'.mono (by omega)⟩
  · obtain ⟨w6, w7, w8, w9, w10, st1, e, b⟩ := hS
    subst e
    rw [rg_len] at b
    walk_at "abw"
    exact ⟨n, m, f, g, _, rfl, hf, hg, b.at hn, by omega, fun st' b' => .inl (q st' ((b.trans b').mono (by omega)))⟩
def asp_law : ASp := fun ds st QA _ => ∃ ns, ds = [.scr ns] ∧ st = [] ∧ ns.length ≤ 63 ∧ QA (.bl true) []
theorem p_law : ∀ ds st0 QA EA, ds.length = 1 → asp_law ds st0 QA EA → t_law asp_box asp_cell asp_lright (bodyK st0 QA EA) ⟨Ab.start 3 ds, st0⟩ := by
  intro ds st0 QA EA hl ⟨ns, e, es, hns, h⟩
  subst e es
  unfold t_law
  walk_at "abq"
  refine forL_ok (I := fun S => ∃ w w2 st, S = ⟨[some (.scr ns), w, w2], st⟩) _ (fun d hd K hK S hS => ?_) (fun S hS => ?_) _ ⟨_, _, _, rfl⟩
  · obtain ⟨i, hi, e⟩ := rg_mem hd
    subst e
    obtain ⟨w, w2, st, e⟩ := hS
    subst e
    walk_at "abq"
    refine ⟨ns, _, rfl, by omega, by omega, fun g => ?_⟩
    walk_at "abq"
    refine ⟨g, rfl, fun a b c ha hc hc2 => ?_⟩
    walk_at "abq"
    refine ⟨st.length, 0, rfl, ⟨a, b, c, 0, by simp, ha, hc, hc2, by decide, by decide⟩, by decide, fun st' hb => ?_⟩
    walk_at "abq"
    refine ⟨st.length, _, rfl, hb.at (by simp), by decide, fun st' hb => ?_⟩
    walk_at "abq"
    exact hK _ ⟨_, _, _, rfl⟩
  · obtain ⟨w, w2, st, e⟩ := hS
    subst e
    walk_at "abq"
    exact .inr ⟨.bl true, .bl true, ⟨Nat.zero_le _, fun m hm => by cases hm⟩, h⟩
theorem same_none {ds : List D} {st : Store} {QA : D → Store → Prop} {EA : XD → Store → Prop} (h : asp_same 0 ds st QA EA) : False := by
  obtain ⟨x, _, g, _⟩ := h
  cases g
theorem law_asks (ns : List Int) (h : ns.length ≤ 63) : asp_law [.scr ns] [] (fun d _ => d = .bl true) fun _ _ => False := ⟨ns, rfl, rfl, h, rfl⟩
end K34
set_option Elab.async false
set_option linter.all false
set_option maxRecDepth 100000
set_option autoImplicit false
namespace K34
open PySem PySem.Spec PyProof.Rows L2 Ab K00 K02
theorem all_facts {P : Program} {w : World} {K : PySem.W.Frag} {h : Heap} {mg : Str → Option Value} {fa : Addr} (KX : K.In h) (G : h.Ns mainGlobals mg) (hfa : mg "law" = some (.ref fa))
 {at_ZERO : Addr} {dt_ZERO : Option Addr} {t0_ZERO t1_ZERO : Tok} {n_ZERO : Nat} {sk_ZERO : Array (Option Value)}
 {at_ONE : Addr} {dt_ONE : Option Addr} {t0_ONE t1_ONE : Tok} {n_ONE : Nat} {sk_ONE : Array (Option Value)}
 {at_HALF : Addr} {dt_HALF : Option Addr} {t0_HALF t1_HALF : Tok} {n_HALF : Nat} {sk_HALF : Array (Option Value)}
 {t_MOST_STATES : Tok}
 {C_DividedByZero : Addr}
 {C_InvalidDistribution : Addr}
 {fI_InvalidDistribution N_InvalidDistribution : Addr} {nm_InvalidDistribution q_InvalidDistribution : Str} {bs_InvalidDistribution bm_InvalidDistribution sub_InvalidDistribution : List Value} {sn_InvalidDistribution : List Str} {ab_InvalidDistribution : Bool} {col_InvalidDistribution : Option Bool} {dd_InvalidDistribution : Option Addr} {k0_InvalidDistribution k1_InvalidDistribution k2_InvalidDistribution k3_InvalidDistribution k5_InvalidDistribution : Option Value}
 {oc_iInvalidDistribution kV_iInvalidDistribution dc_iInvalidDistribution pm_iInvalidDistribution cd_iInvalidDistribution ct_iInvalidDistribution : Value} {od_iInvalidDistribution an_iInvalidDistribution : Option Addr} {sl_iInvalidDistribution : Array (Option Value)}
 {f_is_integer : Addr} {oc_is_integer kV_is_integer dc_is_integer pm_is_integer cd_is_integer ct_is_integer : Value} {od_is_integer an_is_integer : Option Addr} {sl_is_integer : Array (Option Value)}
 {f_is_tuple_of : Addr} {oc_is_tuple_of kV_is_tuple_of dc_is_tuple_of pm_is_tuple_of cd_is_tuple_of ct_is_tuple_of : Value} {od_is_tuple_of an_is_tuple_of : Option Addr} {sl_is_tuple_of : Array (Option Value)}
 {f_is_fraction : Addr} {oc_is_fraction kV_is_fraction dc_is_fraction pm_is_fraction cd_is_fraction ct_is_fraction : Value} {od_is_fraction an_is_fraction : Option Addr} {sl_is_fraction : Array (Option Value)}
 {f_lowest : Addr} {oc_lowest kV_lowest dc_lowest pm_lowest cd_lowest ct_lowest : Value} {od_lowest an_lowest : Option Addr} {sl_lowest : Array (Option Value)}
 {f_add : Addr} {oc_add kV_add dc_add pm_add cd_add ct_add : Value} {od_add an_add : Option Addr} {sl_add : Array (Option Value)}
 {f_subtract : Addr} {oc_subtract kV_subtract dc_subtract pm_subtract cd_subtract ct_subtract : Value} {od_subtract an_subtract : Option Addr} {sl_subtract : Array (Option Value)}
 {f_multiply : Addr} {oc_multiply kV_multiply dc_multiply pm_multiply cd_multiply ct_multiply : Value} {od_multiply an_multiply : Option Addr} {sl_multiply : Array (Option Value)}
 {f_divide : Addr} {oc_divide kV_divide dc_divide pm_divide cd_divide ct_divide : Value} {od_divide an_divide : Option Addr} {sl_divide : Array (Option Value)}
 {f_compare : Addr} {oc_compare kV_compare dc_compare pm_compare cd_compare ct_compare : Value} {od_compare an_compare : Option Addr} {sl_compare : Array (Option Value)}
 {f_is_less : Addr} {oc_is_less kV_is_less dc_is_less pm_is_less cd_is_less ct_is_less : Value} {od_is_less an_is_less : Option Addr} {sl_is_less : Array (Option Value)}
 {f_total : Addr} {oc_total kV_total dc_total pm_total cd_total ct_total : Value} {od_total an_total : Option Addr} {sl_total : Array (Option Value)}
 {f_greatest : Addr} {oc_greatest kV_greatest dc_greatest pm_greatest cd_greatest ct_greatest : Value} {od_greatest an_greatest : Option Addr} {sl_greatest : Array (Option Value)}
 {f_is_probability : Addr} {oc_is_probability kV_is_probability dc_is_probability pm_is_probability cd_is_probability ct_is_probability : Value} {od_is_probability an_is_probability : Option Addr} {sl_is_probability : Array (Option Value)}
 {f_is_distribution : Addr} {oc_is_distribution kV_is_distribution dc_is_distribution pm_is_distribution cd_is_distribution ct_is_distribution : Value} {od_is_distribution an_is_distribution : Option Addr} {sl_is_distribution : Array (Option Value)}
 {f_check_distributions : Addr} {oc_check_distributions kV_check_distributions dc_check_distributions pm_check_distributions cd_check_distributions ct_check_distributions : Value} {od_check_distributions an_check_distributions : Option Addr} {sl_check_distributions : Array (Option Value)}
 {f_gap : Addr} {oc_gap kV_gap dc_gap pm_gap cd_gap ct_gap : Value} {od_gap an_gap : Option Addr} {sl_gap : Array (Option Value)}
 {f_variation_of : Addr} {oc_variation_of kV_variation_of dc_variation_of pm_variation_of cd_variation_of ct_variation_of : Value} {od_variation_of an_variation_of : Option Addr} {sl_variation_of : Array (Option Value)}
 {f_variation : Addr} {oc_variation kV_variation dc_variation pm_variation cd_variation ct_variation : Value} {od_variation an_variation : Option Addr} {sl_variation : Array (Option Value)}
 {f_best_event : Addr} {oc_best_event kV_best_event dc_best_event pm_best_event cd_best_event ct_best_event : Value} {od_best_event an_best_event : Option Addr} {sl_best_event : Array (Option Value)}
 {f_separation : Addr} {oc_separation kV_separation dc_separation pm_separation cd_separation ct_separation : Value} {od_separation an_separation : Option Addr} {sl_separation : Array (Option Value)}
 {f_law_cell : Addr} {oc_law_cell kV_law_cell dc_law_cell pm_law_cell cd_law_cell ct_law_cell : Value} {od_law_cell an_law_cell : Option Addr} {sl_law_cell : Array (Option Value)}
 {f_law_box : Addr} {oc_law_box kV_law_box dc_law_box pm_law_box cd_law_box ct_law_box : Value} {od_law_box an_law_box : Option Addr} {sl_law_box : Array (Option Value)}
 {f_law_take : Addr} {oc_law_take kV_law_take dc_law_take pm_law_take cd_law_take ct_law_take : Value} {od_law_take an_law_take : Option Addr} {sl_law_take : Array (Option Value)}
 {f_law_same : Addr} {oc_law_same kV_law_same dc_law_same pm_law_same cd_law_same ct_law_same : Value} {od_law_same an_law_same : Option Addr} {sl_law_same : Array (Option Value)}
 {f_law_gcd : Addr} {oc_law_gcd kV_law_gcd dc_law_gcd pm_law_gcd cd_law_gcd ct_law_gcd : Value} {od_law_gcd an_law_gcd : Option Addr} {sl_law_gcd : Array (Option Value)}
 {f_law_low : Addr} {oc_law_low kV_law_low dc_law_low pm_law_low cd_law_low ct_law_low : Value} {od_law_low an_law_low : Option Addr} {sl_law_low : Array (Option Value)}
 {f_law_add : Addr} {oc_law_add kV_law_add dc_law_add pm_law_add cd_law_add ct_law_add : Value} {od_law_add an_law_add : Option Addr} {sl_law_add : Array (Option Value)}
 {f_law_less : Addr} {oc_law_less kV_law_less dc_law_less pm_law_less cd_law_less ct_law_less : Value} {od_law_less an_law_less : Option Addr} {sl_law_less : Array (Option Value)}
 {f_law_mul : Addr} {oc_law_mul kV_law_mul dc_law_mul pm_law_mul cd_law_mul ct_law_mul : Value} {od_law_mul an_law_mul : Option Addr} {sl_law_mul : Array (Option Value)}
 {f_law_div : Addr} {oc_law_div kV_law_div dc_law_div pm_law_div cd_law_div ct_law_div : Value} {od_law_div an_law_div : Option Addr} {sl_law_div : Array (Option Value)}
 {f_law_sum : Addr} {oc_law_sum kV_law_sum dc_law_sum pm_law_sum cd_law_sum ct_law_sum : Value} {od_law_sum an_law_sum : Option Addr} {sl_law_sum : Array (Option Value)}
 {f_law_below : Addr} {oc_law_below kV_law_below dc_law_below pm_law_below cd_law_below ct_law_below : Value} {od_law_below an_law_below : Option Addr} {sl_law_below : Array (Option Value)}
 {f_law_shares : Addr} {oc_law_shares kV_law_shares dc_law_shares pm_law_shares cd_law_shares ct_law_shares : Value} {od_law_shares an_law_shares : Option Addr} {sl_law_shares : Array (Option Value)}
 {f_law_weights : Addr} {oc_law_weights kV_law_weights dc_law_weights pm_law_weights cd_law_weights ct_law_weights : Value} {od_law_weights an_law_weights : Option Addr} {sl_law_weights : Array (Option Value)}
 {f_law_vary : Addr} {oc_law_vary kV_law_vary dc_law_vary pm_law_vary cd_law_vary ct_law_vary : Value} {od_law_vary an_law_vary : Option Addr} {sl_law_vary : Array (Option Value)}
 {f_law_pair : Addr} {oc_law_pair kV_law_pair dc_law_pair pm_law_pair cd_law_pair ct_law_pair : Value} {od_law_pair an_law_pair : Option Addr} {sl_law_pair : Array (Option Value)}
 {f_law_event : Addr} {oc_law_event kV_law_event dc_law_event pm_law_event cd_law_event ct_law_event : Value} {od_law_event an_law_event : Option Addr} {sl_law_event : Array (Option Value)}
 {f_law_greatest : Addr} {oc_law_greatest kV_law_greatest dc_law_greatest pm_law_greatest cd_law_greatest ct_law_greatest : Value} {od_law_greatest an_law_greatest : Option Addr} {sl_law_greatest : Array (Option Value)}
 {f_law_apart : Addr} {oc_law_apart kV_law_apart dc_law_apart pm_law_apart cd_law_apart ct_law_apart : Value} {od_law_apart an_law_apart : Option Addr} {sl_law_apart : Array (Option Value)}
 {f_law_is_set : Addr} {oc_law_is_set kV_law_is_set dc_law_is_set pm_law_is_set cd_law_is_set ct_law_is_set : Value} {od_law_is_set an_law_is_set : Option Addr} {sl_law_is_set : Array (Option Value)}
 {f_law_asked : Addr} {oc_law_asked kV_law_asked dc_law_asked pm_law_asked cd_law_asked ct_law_asked : Value} {od_law_asked an_law_asked : Option Addr} {sl_law_asked : Array (Option Value)}
 {f_law_near : Addr} {oc_law_near kV_law_near dc_law_near pm_law_near cd_law_near ct_law_near : Value} {od_law_near an_law_near : Option Addr} {sl_law_near : Array (Option Value)}
 {f_law_refusals_right : Addr} {oc_law_refusals_right kV_law_refusals_right dc_law_refusals_right pm_law_refusals_right cd_law_refusals_right ct_law_refusals_right : Value} {od_law_refusals_right an_law_refusals_right : Option Addr} {sl_law_refusals_right : Array (Option Value)}
 {f_law_right : Addr} {oc_law_right kV_law_right dc_law_right pm_law_right cd_law_right ct_law_right : Value} {od_law_right an_law_right : Option Addr} {sl_law_right : Array (Option Value)}
 {f_law : Addr} {oc_law kV_law dc_law pm_law cd_law ct_law : Value} {od_law an_law : Option Addr} {sl_law : Array (Option Value)}
 (zm_bool : PySem.W.nsIn K mainGlobals "bool" = some none)
 (zm_isinstance : PySem.W.nsIn K mainGlobals "isinstance" = some none)
 (zm_int : PySem.W.nsIn K mainGlobals "int" = some none)
 (zm_len : PySem.W.nsIn K mainGlobals "len" = some none)
 (zm_tuple : PySem.W.nsIn K mainGlobals "tuple" = some none)
 (zm_all : PySem.W.nsIn K mainGlobals "all" = some none)
 (zm_gcd : PySem.W.nsIn K mainGlobals "gcd" = some (some (.builtin "math.gcd")))
 (zm_abs : PySem.W.nsIn K mainGlobals "abs" = some none)
 (zm_zip : PySem.W.nsIn K mainGlobals "zip" = some none)
 (zm_enumerate : PySem.W.nsIn K mainGlobals "enumerate" = some none)
 (zm_sum : PySem.W.nsIn K mainGlobals "sum" = some none)
 (zm_str : PySem.W.nsIn K mainGlobals "str" = some none)
 (zm_range : PySem.W.nsIn K mainGlobals "range" = some none)
 (zm_list : PySem.W.nsIn K mainGlobals "list" = some none)
 (g_ZERO : PySem.W.nsIn K mainGlobals "ZERO" = some (some (.ref at_ZERO)))
 (lt_ZERO : K.lookup at_ZERO = some ⟨.type "tuple", dt_ZERO, .seq #[.int 0 t0_ZERO, .int 1 t1_ZERO] n_ZERO, sk_ZERO⟩)
 (g_ONE : PySem.W.nsIn K mainGlobals "ONE" = some (some (.ref at_ONE)))
 (lt_ONE : K.lookup at_ONE = some ⟨.type "tuple", dt_ONE, .seq #[.int 1 t0_ONE, .int 1 t1_ONE] n_ONE, sk_ONE⟩)
 (g_HALF : PySem.W.nsIn K mainGlobals "HALF" = some (some (.ref at_HALF)))
 (lt_HALF : K.lookup at_HALF = some ⟨.type "tuple", dt_HALF, .seq #[.int 1 t0_HALF, .int 2 t1_HALF] n_HALF, sk_HALF⟩)
 (g_MOST_STATES : PySem.W.nsIn K mainGlobals "MOST_STATES" = some (some (.int 7 t_MOST_STATES)))
 (g_DividedByZero : PySem.W.nsIn K mainGlobals "DividedByZero" = some (some (.ref C_DividedByZero)))
 (kp_DividedByZero : PySem.W.keepIn K (.ref C_DividedByZero) = true)
 (sb_DividedByZero : PySem.W.subIn K (.ref C_DividedByZero) (.type "BaseException") = some true)
 (ty_DividedByZero : PySem.W.typeIn K (.ref C_DividedByZero) = some (.type "type"))
 (hd_DividedByZero : PySem.W.hasDictIn K C_DividedByZero = true)
 (xn_DividedByZero : PySem.W.excIn K C_DividedByZero [.type "ValueError", .type "Exception", .type "BaseException", .type "object"] "ValueError.__new__" = true)
 (g_InvalidDistribution : PySem.W.nsIn K mainGlobals "InvalidDistribution" = some (some (.ref C_InvalidDistribution)))
 (kp_InvalidDistribution : PySem.W.keepIn K (.ref C_InvalidDistribution) = true)
 (sb_InvalidDistribution : PySem.W.subIn K (.ref C_InvalidDistribution) (.type "BaseException") = some true)
 (ty_InvalidDistribution : PySem.W.typeIn K (.ref C_InvalidDistribution) = some (.type "type"))
 (hd_InvalidDistribution : PySem.W.hasDictIn K C_InvalidDistribution = true)
 (xl_InvalidDistribution : K.lookup C_InvalidDistribution = some (excClassObj nm_InvalidDistribution q_InvalidDistribution C_InvalidDistribution N_InvalidDistribution bs_InvalidDistribution bm_InvalidDistribution true sn_InvalidDistribution sub_InvalidDistribution ab_InvalidDistribution col_InvalidDistribution dd_InvalidDistribution k0_InvalidDistribution k1_InvalidDistribution k2_InvalidDistribution k3_InvalidDistribution k5_InvalidDistribution "ValueError.__new__"))
 (rv_InvalidDistribution : PySem.HandSPX.refsVE bm_InvalidDistribution = true)
 (sa_InvalidDistribution : PySem.W.findIn K (.ref C_InvalidDistribution) "__setattr__" = some (some (.builtin "object.__setattr__")))
 (ga_InvalidDistribution : PySem.W.findIn K (.ref C_InvalidDistribution) "__getattribute__" = some (some (.builtin "BaseException.__getattribute__")))
 (gg_InvalidDistribution : PySem.W.findIn K (.ref C_InvalidDistribution) "__getattr__" = some none)
 (no_InvalidDistribution_given : PySem.W.findIn K (.ref C_InvalidDistribution) "given" = some none)
 (in_InvalidDistribution : PySem.W.findIn K (.ref C_InvalidDistribution) "__init__" = some (some (.ref fI_InvalidDistribution)))
 (ti_InvalidDistribution : PySem.W.typeIn K (.ref fI_InvalidDistribution) = some (.type "function"))
 (li_InvalidDistribution : K.lookup fI_InvalidDistribution = some ⟨oc_iInvalidDistribution, od_iInvalidDistribution, .func (PySem.W.fnOf "__init__" "InvalidDistribution.__init__" (defArgs (inClass (topS 4) 0)) (defBody (inClass (topS 4) 0)) (defScope (inClass (topS 4) 0)) .none kV_iInvalidDistribution dc_iInvalidDistribution pm_iInvalidDistribution an_iInvalidDistribution cd_iInvalidDistribution ct_iInvalidDistribution), sl_iInvalidDistribution⟩)
 (ci_InvalidDistribution : PySem.W.codeIn K cd_iInvalidDistribution "InvalidDistribution.__init__" = true)
 (ki_InvalidDistribution : PySem.W.keepIn K (.ref fI_InvalidDistribution) = true)
 (sc_InvalidDistribution_InvalidDistribution : PySem.W.subIn K (.ref C_InvalidDistribution) (.ref C_InvalidDistribution) = some true)
 (a_is_integer : PySem.W.nsIn K mainGlobals "is_integer" = some (some (.ref f_is_integer)))
 (l_is_integer : K.lookup f_is_integer = some ⟨oc_is_integer, od_is_integer, .func (PySem.W.fnOf "is_integer" "is_integer" (defArgs s_is_integer) (defBody s_is_integer) (defScope s_is_integer) .none kV_is_integer dc_is_integer pm_is_integer an_is_integer cd_is_integer ct_is_integer), sl_is_integer⟩)
 (c0_is_integer : PySem.W.codeIn K cd_is_integer "is_integer" = true)
 (k_is_integer : PySem.W.keepIn K (.ref f_is_integer) = true)
 (a_is_tuple_of : PySem.W.nsIn K mainGlobals "is_tuple_of" = some (some (.ref f_is_tuple_of)))
 (l_is_tuple_of : K.lookup f_is_tuple_of = some ⟨oc_is_tuple_of, od_is_tuple_of, .func (PySem.W.fnOf "is_tuple_of" "is_tuple_of" (defArgs s_is_tuple_of) (defBody s_is_tuple_of) (defScope s_is_tuple_of) .none kV_is_tuple_of dc_is_tuple_of pm_is_tuple_of an_is_tuple_of cd_is_tuple_of ct_is_tuple_of), sl_is_tuple_of⟩)
 (c0_is_tuple_of : PySem.W.codeIn K cd_is_tuple_of "is_tuple_of" = true)
 (k_is_tuple_of : PySem.W.keepIn K (.ref f_is_tuple_of) = true)
 (a_is_fraction : PySem.W.nsIn K mainGlobals "is_fraction" = some (some (.ref f_is_fraction)))
 (l_is_fraction : K.lookup f_is_fraction = some ⟨oc_is_fraction, od_is_fraction, .func (PySem.W.fnOf "is_fraction" "is_fraction" (defArgs s_is_fraction) (defBody s_is_fraction) (defScope s_is_fraction) .none kV_is_fraction dc_is_fraction pm_is_fraction an_is_fraction cd_is_fraction ct_is_fraction), sl_is_fraction⟩)
 (c0_is_fraction : PySem.W.codeIn K cd_is_fraction "is_fraction" = true)
 (k_is_fraction : PySem.W.keepIn K (.ref f_is_fraction) = true)
 (a_lowest : PySem.W.nsIn K mainGlobals "lowest" = some (some (.ref f_lowest)))
 (l_lowest : K.lookup f_lowest = some ⟨oc_lowest, od_lowest, .func (PySem.W.fnOf "lowest" "lowest" (defArgs s_lowest) (defBody s_lowest) (defScope s_lowest) .none kV_lowest dc_lowest pm_lowest an_lowest cd_lowest ct_lowest), sl_lowest⟩)
 (c0_lowest : PySem.W.codeIn K cd_lowest "lowest" = true)
 (k_lowest : PySem.W.keepIn K (.ref f_lowest) = true)
 (a_add : PySem.W.nsIn K mainGlobals "add" = some (some (.ref f_add)))
 (l_add : K.lookup f_add = some ⟨oc_add, od_add, .func (PySem.W.fnOf "add" "add" (defArgs s_add) (defBody s_add) (defScope s_add) .none kV_add dc_add pm_add an_add cd_add ct_add), sl_add⟩)
 (c0_add : PySem.W.codeIn K cd_add "add" = true)
 (k_add : PySem.W.keepIn K (.ref f_add) = true)
 (a_subtract : PySem.W.nsIn K mainGlobals "subtract" = some (some (.ref f_subtract)))
 (l_subtract : K.lookup f_subtract = some ⟨oc_subtract, od_subtract, .func (PySem.W.fnOf "subtract" "subtract" (defArgs s_subtract) (defBody s_subtract) (defScope s_subtract) .none kV_subtract dc_subtract pm_subtract an_subtract cd_subtract ct_subtract), sl_subtract⟩)
 (c0_subtract : PySem.W.codeIn K cd_subtract "subtract" = true)
 (k_subtract : PySem.W.keepIn K (.ref f_subtract) = true)
 (a_multiply : PySem.W.nsIn K mainGlobals "multiply" = some (some (.ref f_multiply)))
 (l_multiply : K.lookup f_multiply = some ⟨oc_multiply, od_multiply, .func (PySem.W.fnOf "multiply" "multiply" (defArgs s_multiply) (defBody s_multiply) (defScope s_multiply) .none kV_multiply dc_multiply pm_multiply an_multiply cd_multiply ct_multiply), sl_multiply⟩)
 (c0_multiply : PySem.W.codeIn K cd_multiply "multiply" = true)
 (k_multiply : PySem.W.keepIn K (.ref f_multiply) = true)
 (a_divide : PySem.W.nsIn K mainGlobals "divide" = some (some (.ref f_divide)))
 (l_divide : K.lookup f_divide = some ⟨oc_divide, od_divide, .func (PySem.W.fnOf "divide" "divide" (defArgs s_divide) (defBody s_divide) (defScope s_divide) .none kV_divide dc_divide pm_divide an_divide cd_divide ct_divide), sl_divide⟩)
 (c0_divide : PySem.W.codeIn K cd_divide "divide" = true)
 (k_divide : PySem.W.keepIn K (.ref f_divide) = true)
 (a_compare : PySem.W.nsIn K mainGlobals "compare" = some (some (.ref f_compare)))
 (l_compare : K.lookup f_compare = some ⟨oc_compare, od_compare, .func (PySem.W.fnOf "compare" "compare" (defArgs s_compare) (defBody s_compare) (defScope s_compare) .none kV_compare dc_compare pm_compare an_compare cd_compare ct_compare), sl_compare⟩)
 (c0_compare : PySem.W.codeIn K cd_compare "compare" = true)
 (k_compare : PySem.W.keepIn K (.ref f_compare) = true)
 (a_is_less : PySem.W.nsIn K mainGlobals "is_less" = some (some (.ref f_is_less)))
 (l_is_less : K.lookup f_is_less = some ⟨oc_is_less, od_is_less, .func (PySem.W.fnOf "is_less" "is_less" (defArgs s_is_less) (defBody s_is_less) (defScope s_is_less) .none kV_is_less dc_is_less pm_is_less an_is_less cd_is_less ct_is_less), sl_is_less⟩)
 (c0_is_less : PySem.W.codeIn K cd_is_less "is_less" = true)
 (k_is_less : PySem.W.keepIn K (.ref f_is_less) = true)
 (a_total : PySem.W.nsIn K mainGlobals "total" = some (some (.ref f_total)))
 (l_total : K.lookup f_total = some ⟨oc_total, od_total, .func (PySem.W.fnOf "total" "total" (defArgs s_total) (defBody s_total) (defScope s_total) .none kV_total dc_total pm_total an_total cd_total ct_total), sl_total⟩)
 (c0_total : PySem.W.codeIn K cd_total "total" = true)
 (k_total : PySem.W.keepIn K (.ref f_total) = true)
 (a_greatest : PySem.W.nsIn K mainGlobals "greatest" = some (some (.ref f_greatest)))
 (l_greatest : K.lookup f_greatest = some ⟨oc_greatest, od_greatest, .func (PySem.W.fnOf "greatest" "greatest" (defArgs s_greatest) (defBody s_greatest) (defScope s_greatest) .none kV_greatest dc_greatest pm_greatest an_greatest cd_greatest ct_greatest), sl_greatest⟩)
 (c0_greatest : PySem.W.codeIn K cd_greatest "greatest" = true)
 (k_greatest : PySem.W.keepIn K (.ref f_greatest) = true)
 (a_is_probability : PySem.W.nsIn K mainGlobals "is_probability" = some (some (.ref f_is_probability)))
 (l_is_probability : K.lookup f_is_probability = some ⟨oc_is_probability, od_is_probability, .func (PySem.W.fnOf "is_probability" "is_probability" (defArgs s_is_probability) (defBody s_is_probability) (defScope s_is_probability) .none kV_is_probability dc_is_probability pm_is_probability an_is_probability cd_is_probability ct_is_probability), sl_is_probability⟩)
 (c0_is_probability : PySem.W.codeIn K cd_is_probability "is_probability" = true)
 (k_is_probability : PySem.W.keepIn K (.ref f_is_probability) = true)
 (a_is_distribution : PySem.W.nsIn K mainGlobals "is_distribution" = some (some (.ref f_is_distribution)))
 (l_is_distribution : K.lookup f_is_distribution = some ⟨oc_is_distribution, od_is_distribution, .func (PySem.W.fnOf "is_distribution" "is_distribution" (defArgs s_is_distribution) (defBody s_is_distribution) (defScope s_is_distribution) .none kV_is_distribution dc_is_distribution pm_is_distribution an_is_distribution cd_is_distribution ct_is_distribution), sl_is_distribution⟩)
 (c0_is_distribution : PySem.W.codeIn K cd_is_distribution "is_distribution" = true)
 (k_is_distribution : PySem.W.keepIn K (.ref f_is_distribution) = true)
 (a_check_distributions : PySem.W.nsIn K mainGlobals "check_distributions" = some (some (.ref f_check_distributions)))
 (l_check_distributions : K.lookup f_check_distributions = some ⟨oc_check_distributions, od_check_distributions, .func (PySem.W.fnOf "check_distributions" "check_distributions" (defArgs s_check_distributions) (defBody s_check_distributions) (defScope s_check_distributions) .none kV_check_distributions dc_check_distributions pm_check_distributions an_check_distributions cd_check_distributions ct_check_distributions), sl_check_distributions⟩)
 (c0_check_distributions : PySem.W.codeIn K cd_check_distributions "check_distributions" = true)
 (k_check_distributions : PySem.W.keepIn K (.ref f_check_distributions) = true)
 (a_gap : PySem.W.nsIn K mainGlobals "gap" = some (some (.ref f_gap)))
 (l_gap : K.lookup f_gap = some ⟨oc_gap, od_gap, .func (PySem.W.fnOf "gap" "gap" (defArgs s_gap) (defBody s_gap) (defScope s_gap) .none kV_gap dc_gap pm_gap an_gap cd_gap ct_gap), sl_gap⟩)
 (c0_gap : PySem.W.codeIn K cd_gap "gap" = true)
 (k_gap : PySem.W.keepIn K (.ref f_gap) = true)
 (a_variation_of : PySem.W.nsIn K mainGlobals "variation_of" = some (some (.ref f_variation_of)))
 (l_variation_of : K.lookup f_variation_of = some ⟨oc_variation_of, od_variation_of, .func (PySem.W.fnOf "variation_of" "variation_of" (defArgs s_variation_of) (defBody s_variation_of) (defScope s_variation_of) .none kV_variation_of dc_variation_of pm_variation_of an_variation_of cd_variation_of ct_variation_of), sl_variation_of⟩)
 (c0_variation_of : PySem.W.codeIn K cd_variation_of "variation_of" = true)
 (k_variation_of : PySem.W.keepIn K (.ref f_variation_of) = true)
 (a_variation : PySem.W.nsIn K mainGlobals "variation" = some (some (.ref f_variation)))
 (l_variation : K.lookup f_variation = some ⟨oc_variation, od_variation, .func (PySem.W.fnOf "variation" "variation" (defArgs s_variation) (defBody s_variation) (defScope s_variation) .none kV_variation dc_variation pm_variation an_variation cd_variation ct_variation), sl_variation⟩)
 (c0_variation : PySem.W.codeIn K cd_variation "variation" = true)
 (k_variation : PySem.W.keepIn K (.ref f_variation) = true)
 (a_best_event : PySem.W.nsIn K mainGlobals "best_event" = some (some (.ref f_best_event)))
 (l_best_event : K.lookup f_best_event = some ⟨oc_best_event, od_best_event, .func (PySem.W.fnOf "best_event" "best_event" (defArgs s_best_event) (defBody s_best_event) (defScope s_best_event) .none kV_best_event dc_best_event pm_best_event an_best_event cd_best_event ct_best_event), sl_best_event⟩)
 (c0_best_event : PySem.W.codeIn K cd_best_event "best_event" = true)
 (k_best_event : PySem.W.keepIn K (.ref f_best_event) = true)
 (a_separation : PySem.W.nsIn K mainGlobals "separation" = some (some (.ref f_separation)))
 (l_separation : K.lookup f_separation = some ⟨oc_separation, od_separation, .func (PySem.W.fnOf "separation" "separation" (defArgs s_separation) (defBody s_separation) (defScope s_separation) .none kV_separation dc_separation pm_separation an_separation cd_separation ct_separation), sl_separation⟩)
 (c0_separation : PySem.W.codeIn K cd_separation "separation" = true)
 (k_separation : PySem.W.keepIn K (.ref f_separation) = true)
 (a_law_cell : PySem.W.nsIn K mainGlobals "_law_cell" = some (some (.ref f_law_cell)))
 (l_law_cell : K.lookup f_law_cell = some ⟨oc_law_cell, od_law_cell, .func (PySem.W.fnOf "_law_cell" "_law_cell" (defArgs s_law_cell) (defBody s_law_cell) (defScope s_law_cell) .none kV_law_cell dc_law_cell pm_law_cell an_law_cell cd_law_cell ct_law_cell), sl_law_cell⟩)
 (c0_law_cell : PySem.W.codeIn K cd_law_cell "_law_cell" = true)
 (k_law_cell : PySem.W.keepIn K (.ref f_law_cell) = true)
 (a_law_box : PySem.W.nsIn K mainGlobals "_law_box" = some (some (.ref f_law_box)))
 (l_law_box : K.lookup f_law_box = some ⟨oc_law_box, od_law_box, .func (PySem.W.fnOf "_law_box" "_law_box" (defArgs s_law_box) (defBody s_law_box) (defScope s_law_box) .none kV_law_box dc_law_box pm_law_box an_law_box cd_law_box ct_law_box), sl_law_box⟩)
 (c0_law_box : PySem.W.codeIn K cd_law_box "_law_box" = true)
 (k_law_box : PySem.W.keepIn K (.ref f_law_box) = true)
 (a_law_take : PySem.W.nsIn K mainGlobals "_law_take" = some (some (.ref f_law_take)))
 (l_law_take : K.lookup f_law_take = some ⟨oc_law_take, od_law_take, .func (PySem.W.fnOf "_law_take" "_law_take" (defArgs s_law_take) (defBody s_law_take) (defScope s_law_take) .none kV_law_take dc_law_take pm_law_take an_law_take cd_law_take ct_law_take), sl_law_take⟩)
 (c0_law_take : PySem.W.codeIn K cd_law_take "_law_take" = true)
 (k_law_take : PySem.W.keepIn K (.ref f_law_take) = true)
 (a_law_same : PySem.W.nsIn K mainGlobals "_law_same" = some (some (.ref f_law_same)))
 (l_law_same : K.lookup f_law_same = some ⟨oc_law_same, od_law_same, .func (PySem.W.fnOf "_law_same" "_law_same" (defArgs s_law_same) (defBody s_law_same) (defScope s_law_same) .none kV_law_same dc_law_same pm_law_same an_law_same cd_law_same ct_law_same), sl_law_same⟩)
 (c0_law_same : PySem.W.codeIn K cd_law_same "_law_same" = true)
 (k_law_same : PySem.W.keepIn K (.ref f_law_same) = true)
 (a_law_gcd : PySem.W.nsIn K mainGlobals "_law_gcd" = some (some (.ref f_law_gcd)))
 (l_law_gcd : K.lookup f_law_gcd = some ⟨oc_law_gcd, od_law_gcd, .func (PySem.W.fnOf "_law_gcd" "_law_gcd" (defArgs s_law_gcd) (defBody s_law_gcd) (defScope s_law_gcd) .none kV_law_gcd dc_law_gcd pm_law_gcd an_law_gcd cd_law_gcd ct_law_gcd), sl_law_gcd⟩)
 (c0_law_gcd : PySem.W.codeIn K cd_law_gcd "_law_gcd" = true)
 (k_law_gcd : PySem.W.keepIn K (.ref f_law_gcd) = true)
 (a_law_low : PySem.W.nsIn K mainGlobals "_law_low" = some (some (.ref f_law_low)))
 (l_law_low : K.lookup f_law_low = some ⟨oc_law_low, od_law_low, .func (PySem.W.fnOf "_law_low" "_law_low" (defArgs s_law_low) (defBody s_law_low) (defScope s_law_low) .none kV_law_low dc_law_low pm_law_low an_law_low cd_law_low ct_law_low), sl_law_low⟩)
 (c0_law_low : PySem.W.codeIn K cd_law_low "_law_low" = true)
 (k_law_low : PySem.W.keepIn K (.ref f_law_low) = true)
 (a_law_add : PySem.W.nsIn K mainGlobals "_law_add" = some (some (.ref f_law_add)))
 (l_law_add : K.lookup f_law_add = some ⟨oc_law_add, od_law_add, .func (PySem.W.fnOf "_law_add" "_law_add" (defArgs s_law_add) (defBody s_law_add) (defScope s_law_add) .none kV_law_add dc_law_add pm_law_add an_law_add cd_law_add ct_law_add), sl_law_add⟩)
 (c0_law_add : PySem.W.codeIn K cd_law_add "_law_add" = true)
 (k_law_add : PySem.W.keepIn K (.ref f_law_add) = true)
 (a_law_less : PySem.W.nsIn K mainGlobals "_law_less" = some (some (.ref f_law_less)))
 (l_law_less : K.lookup f_law_less = some ⟨oc_law_less, od_law_less, .func (PySem.W.fnOf "_law_less" "_law_less" (defArgs s_law_less) (defBody s_law_less) (defScope s_law_less) .none kV_law_less dc_law_less pm_law_less an_law_less cd_law_less ct_law_less), sl_law_less⟩)
 (c0_law_less : PySem.W.codeIn K cd_law_less "_law_less" = true)
 (k_law_less : PySem.W.keepIn K (.ref f_law_less) = true)
 (a_law_mul : PySem.W.nsIn K mainGlobals "_law_mul" = some (some (.ref f_law_mul)))
 (l_law_mul : K.lookup f_law_mul = some ⟨oc_law_mul, od_law_mul, .func (PySem.W.fnOf "_law_mul" "_law_mul" (defArgs s_law_mul) (defBody s_law_mul) (defScope s_law_mul) .none kV_law_mul dc_law_mul pm_law_mul an_law_mul cd_law_mul ct_law_mul), sl_law_mul⟩)
 (c0_law_mul : PySem.W.codeIn K cd_law_mul "_law_mul" = true)
 (k_law_mul : PySem.W.keepIn K (.ref f_law_mul) = true)
 (a_law_div : PySem.W.nsIn K mainGlobals "_law_div" = some (some (.ref f_law_div)))
 (l_law_div : K.lookup f_law_div = some ⟨oc_law_div, od_law_div, .func (PySem.W.fnOf "_law_div" "_law_div" (defArgs s_law_div) (defBody s_law_div) (defScope s_law_div) .none kV_law_div dc_law_div pm_law_div an_law_div cd_law_div ct_law_div), sl_law_div⟩)
 (c0_law_div : PySem.W.codeIn K cd_law_div "_law_div" = true)
 (k_law_div : PySem.W.keepIn K (.ref f_law_div) = true)
 (a_law_sum : PySem.W.nsIn K mainGlobals "_law_sum" = some (some (.ref f_law_sum)))
 (l_law_sum : K.lookup f_law_sum = some ⟨oc_law_sum, od_law_sum, .func (PySem.W.fnOf "_law_sum" "_law_sum" (defArgs s_law_sum) (defBody s_law_sum) (defScope s_law_sum) .none kV_law_sum dc_law_sum pm_law_sum an_law_sum cd_law_sum ct_law_sum), sl_law_sum⟩)
 (c0_law_sum : PySem.W.codeIn K cd_law_sum "_law_sum" = true)
 (k_law_sum : PySem.W.keepIn K (.ref f_law_sum) = true)
 (a_law_below : PySem.W.nsIn K mainGlobals "_law_below" = some (some (.ref f_law_below)))
 (l_law_below : K.lookup f_law_below = some ⟨oc_law_below, od_law_below, .func (PySem.W.fnOf "_law_below" "_law_below" (defArgs s_law_below) (defBody s_law_below) (defScope s_law_below) .none kV_law_below dc_law_below pm_law_below an_law_below cd_law_below ct_law_below), sl_law_below⟩)
 (c0_law_below : PySem.W.codeIn K cd_law_below "_law_below" = true)
 (k_law_below : PySem.W.keepIn K (.ref f_law_below) = true)
 (a_law_shares : PySem.W.nsIn K mainGlobals "_law_shares" = some (some (.ref f_law_shares)))
 (l_law_shares : K.lookup f_law_shares = some ⟨oc_law_shares, od_law_shares, .func (PySem.W.fnOf "_law_shares" "_law_shares" (defArgs s_law_shares) (defBody s_law_shares) (defScope s_law_shares) .none kV_law_shares dc_law_shares pm_law_shares an_law_shares cd_law_shares ct_law_shares), sl_law_shares⟩)
 (c0_law_shares : PySem.W.codeIn K cd_law_shares "_law_shares" = true)
 (k_law_shares : PySem.W.keepIn K (.ref f_law_shares) = true)
 (a_law_weights : PySem.W.nsIn K mainGlobals "_law_weights" = some (some (.ref f_law_weights)))
 (l_law_weights : K.lookup f_law_weights = some ⟨oc_law_weights, od_law_weights, .func (PySem.W.fnOf "_law_weights" "_law_weights" (defArgs s_law_weights) (defBody s_law_weights) (defScope s_law_weights) .none kV_law_weights dc_law_weights pm_law_weights an_law_weights cd_law_weights ct_law_weights), sl_law_weights⟩)
 (c0_law_weights : PySem.W.codeIn K cd_law_weights "_law_weights" = true)
 (k_law_weights : PySem.W.keepIn K (.ref f_law_weights) = true)
 (a_law_vary : PySem.W.nsIn K mainGlobals "_law_vary" = some (some (.ref f_law_vary)))
 (l_law_vary : K.lookup f_law_vary = some ⟨oc_law_vary, od_law_vary, .func (PySem.W.fnOf "_law_vary" "_law_vary" (defArgs s_law_vary) (defBody s_law_vary) (defScope s_law_vary) .none kV_law_vary dc_law_vary pm_law_vary an_law_vary cd_law_vary ct_law_vary), sl_law_vary⟩)
 (c0_law_vary : PySem.W.codeIn K cd_law_vary "_law_vary" = true)
 (k_law_vary : PySem.W.keepIn K (.ref f_law_vary) = true)
 (a_law_pair : PySem.W.nsIn K mainGlobals "_law_pair" = some (some (.ref f_law_pair)))
 (l_law_pair : K.lookup f_law_pair = some ⟨oc_law_pair, od_law_pair, .func (PySem.W.fnOf "_law_pair" "_law_pair" (defArgs s_law_pair) (defBody s_law_pair) (defScope s_law_pair) .none kV_law_pair dc_law_pair pm_law_pair an_law_pair cd_law_pair ct_law_pair), sl_law_pair⟩)
 (c0_law_pair : PySem.W.codeIn K cd_law_pair "_law_pair" = true)
 (k_law_pair : PySem.W.keepIn K (.ref f_law_pair) = true)
 (a_law_event : PySem.W.nsIn K mainGlobals "_law_event" = some (some (.ref f_law_event)))
 (l_law_event : K.lookup f_law_event = some ⟨oc_law_event, od_law_event, .func (PySem.W.fnOf "_law_event" "_law_event" (defArgs s_law_event) (defBody s_law_event) (defScope s_law_event) .none kV_law_event dc_law_event pm_law_event an_law_event cd_law_event ct_law_event), sl_law_event⟩)
 (c0_law_event : PySem.W.codeIn K cd_law_event "_law_event" = true)
 (k_law_event : PySem.W.keepIn K (.ref f_law_event) = true)
 (a_law_greatest : PySem.W.nsIn K mainGlobals "_law_greatest" = some (some (.ref f_law_greatest)))
 (l_law_greatest : K.lookup f_law_greatest = some ⟨oc_law_greatest, od_law_greatest, .func (PySem.W.fnOf "_law_greatest" "_law_greatest" (defArgs s_law_greatest) (defBody s_law_greatest) (defScope s_law_greatest) .none kV_law_greatest dc_law_greatest pm_law_greatest an_law_greatest cd_law_greatest ct_law_greatest), sl_law_greatest⟩)
 (c0_law_greatest : PySem.W.codeIn K cd_law_greatest "_law_greatest" = true)
 (k_law_greatest : PySem.W.keepIn K (.ref f_law_greatest) = true)
 (a_law_apart : PySem.W.nsIn K mainGlobals "_law_apart" = some (some (.ref f_law_apart)))
 (l_law_apart : K.lookup f_law_apart = some ⟨oc_law_apart, od_law_apart, .func (PySem.W.fnOf "_law_apart" "_law_apart" (defArgs s_law_apart) (defBody s_law_apart) (defScope s_law_apart) .none kV_law_apart dc_law_apart pm_law_apart an_law_apart cd_law_apart ct_law_apart), sl_law_apart⟩)
 (c0_law_apart : PySem.W.codeIn K cd_law_apart "_law_apart" = true)
 (k_law_apart : PySem.W.keepIn K (.ref f_law_apart) = true)
 (a_law_is_set : PySem.W.nsIn K mainGlobals "_law_is_set" = some (some (.ref f_law_is_set)))
 (l_law_is_set : K.lookup f_law_is_set = some ⟨oc_law_is_set, od_law_is_set, .func (PySem.W.fnOf "_law_is_set" "_law_is_set" (defArgs s_law_is_set) (defBody s_law_is_set) (defScope s_law_is_set) .none kV_law_is_set dc_law_is_set pm_law_is_set an_law_is_set cd_law_is_set ct_law_is_set), sl_law_is_set⟩)
 (c0_law_is_set : PySem.W.codeIn K cd_law_is_set "_law_is_set" = true)
 (k_law_is_set : PySem.W.keepIn K (.ref f_law_is_set) = true)
 (a_law_asked : PySem.W.nsIn K mainGlobals "_law_asked" = some (some (.ref f_law_asked)))
 (l_law_asked : K.lookup f_law_asked = some ⟨oc_law_asked, od_law_asked, .func (PySem.W.fnOf "_law_asked" "_law_asked" (defArgs s_law_asked) (defBody s_law_asked) (defScope s_law_asked) .none kV_law_asked dc_law_asked pm_law_asked an_law_asked cd_law_asked ct_law_asked), sl_law_asked⟩)
 (c0_law_asked : PySem.W.codeIn K cd_law_asked "_law_asked" = true)
 (k_law_asked : PySem.W.keepIn K (.ref f_law_asked) = true)
 (a_law_near : PySem.W.nsIn K mainGlobals "_law_near" = some (some (.ref f_law_near)))
 (l_law_near : K.lookup f_law_near = some ⟨oc_law_near, od_law_near, .func (PySem.W.fnOf "_law_near" "_law_near" (defArgs s_law_near) (defBody s_law_near) (defScope s_law_near) .none kV_law_near dc_law_near pm_law_near an_law_near cd_law_near ct_law_near), sl_law_near⟩)
 (c0_law_near : PySem.W.codeIn K cd_law_near "_law_near" = true)
 (k_law_near : PySem.W.keepIn K (.ref f_law_near) = true)
 (a_law_refusals_right : PySem.W.nsIn K mainGlobals "_law_refusals_right" = some (some (.ref f_law_refusals_right)))
 (l_law_refusals_right : K.lookup f_law_refusals_right = some ⟨oc_law_refusals_right, od_law_refusals_right, .func (PySem.W.fnOf "_law_refusals_right" "_law_refusals_right" (defArgs s_law_refusals_right) (defBody s_law_refusals_right) (defScope s_law_refusals_right) .none kV_law_refusals_right dc_law_refusals_right pm_law_refusals_right an_law_refusals_right cd_law_refusals_right ct_law_refusals_right), sl_law_refusals_right⟩)
 (c0_law_refusals_right : PySem.W.codeIn K cd_law_refusals_right "_law_refusals_right" = true)
 (k_law_refusals_right : PySem.W.keepIn K (.ref f_law_refusals_right) = true)
 (a_law_right : PySem.W.nsIn K mainGlobals "_law_right" = some (some (.ref f_law_right)))
 (l_law_right : K.lookup f_law_right = some ⟨oc_law_right, od_law_right, .func (PySem.W.fnOf "_law_right" "_law_right" (defArgs s_law_right) (defBody s_law_right) (defScope s_law_right) .none kV_law_right dc_law_right pm_law_right an_law_right cd_law_right ct_law_right), sl_law_right⟩)
 (c0_law_right : PySem.W.codeIn K cd_law_right "_law_right" = true)
 (k_law_right : PySem.W.keepIn K (.ref f_law_right) = true)
 (a_law : PySem.W.nsIn K mainGlobals "law" = some (some (.ref f_law)))
 (l_law : K.lookup f_law = some ⟨oc_law, od_law, .func (PySem.W.fnOf "law" "law" (defArgs s_law) (defBody s_law) (defScope s_law) .none kV_law dc_law pm_law an_law cd_law ct_law), sl_law⟩)
 (c0_law : PySem.W.codeIn K cd_law "law" = true)
 (k_law : PySem.W.keepIn K (.ref f_law) = true) :
 ∃ fd : FuncData, (∀ (s : Shared) (u : Value), BindsTo s fd ⟨[u], []⟩ [("script", u)]) ∧ ∀ base : Heap, K.In base → base.Ns mainGlobals mg → FnOk P w K mg base (L2.CX P w) 10 fa fd ["script"] (spOf K 1 asp_law) := by
  have eq := hfa.symm.trans (PySem.W.mg_of KX G a_law)
  cases eq
  refine ⟨PySem.W.fnOf "law" "law" (defArgs s_law) (defBody s_law) (defScope s_law) .none kV_law dc_law pm_law an_law cd_law ct_law, fun s u => .of_eq rfl, fun base _ _ => ?_⟩
  have m_bool := PySem.W.mg_none_of KX G zm_bool
  have m_isinstance := PySem.W.mg_none_of KX G zm_isinstance
  have m_int := PySem.W.mg_none_of KX G zm_int
  have m_len := PySem.W.mg_none_of KX G zm_len
  have m_tuple := PySem.W.mg_none_of KX G zm_tuple
  have m_all := PySem.W.mg_none_of KX G zm_all
  have m_gcd := PySem.W.mg_of KX G zm_gcd
  have m_abs := PySem.W.mg_none_of KX G zm_abs
  have m_zip := PySem.W.mg_none_of KX G zm_zip
  have m_enumerate := PySem.W.mg_none_of KX G zm_enumerate
  have m_sum := PySem.W.mg_none_of KX G zm_sum
  have m_str := PySem.W.mg_none_of KX G zm_str
  have m_range := PySem.W.mg_none_of KX G zm_range
  have m_list := PySem.W.mg_none_of KX G zm_list
  have k_ZERO : ConstOk K mg "ZERO" (.tup [.int 0, .int 1]) := const_ints (is := [0, 1]) (PySem.W.mg_of KX G g_ZERO) lt_ZERO (.cons ⟨_, rfl⟩ (.cons ⟨_, rfl⟩ .nil)) (show 2 ≤ sizeLine by decide)
  have k_ONE : ConstOk K mg "ONE" (.tup [.int 1, .int 1]) := const_ints (is := [1, 1]) (PySem.W.mg_of KX G g_ONE) lt_ONE (.cons ⟨_, rfl⟩ (.cons ⟨_, rfl⟩ .nil)) (show 2 ≤ sizeLine by decide)
  have k_HALF : ConstOk K mg "HALF" (.tup [.int 1, .int 2]) := const_ints (is := [1, 2]) (PySem.W.mg_of KX G g_HALF) lt_HALF (.cons ⟨_, rfl⟩ (.cons ⟨_, rfl⟩ .nil)) (show 2 ≤ sizeLine by decide)
  have k_MOST_STATES : ConstOk K mg "MOST_STATES" (.int 7) := const_int (PySem.W.mg_of KX G g_MOST_STATES)
  have e_DividedByZero : Err0 K mg "DividedByZero" C_DividedByZero := ⟨PySem.W.mg_of KX G g_DividedByZero, xn_DividedByZero, kp_DividedByZero, sb_DividedByZero, ty_DividedByZero⟩
  have Fi_InvalidDistribution := fun_mk (st := inClass (topS 4) 0) li_InvalidDistribution ci_InvalidDistribution ki_InvalidDistribution
  have T_InvalidDistribution : OexC K C_InvalidDistribution := ⟨⟨_, _, _, _, _, _, _, _, _, _, _, _, _, _, _, xl_InvalidDistribution, rv_InvalidDistribution⟩, sa_InvalidDistribution, sb_InvalidDistribution, ty_InvalidDistribution, kp_InvalidDistribution⟩
  have e_InvalidDistribution : Err1 P w K mg base "InvalidDistribution" "given" C_InvalidDistribution := ⟨PySem.W.mg_of KX G g_InvalidDistribution, T_InvalidDistribution, no_InvalidDistribution_given, ⟨ga_InvalidDistribution, gg_InvalidDistribution, sb_InvalidDistribution, hd_InvalidDistribution⟩, ⟨fI_InvalidDistribution, _, _, in_InvalidDistribution, ti_InvalidDistribution, init_ok (q1 := _) (q2 := _) (q3 := _) (q4 := _) Fi_InvalidDistribution ⟨rfl, rfl, rfl, by decide +kernel, rfl, by decide +kernel, by decide +kernel⟩ rfl, Fi_InvalidDistribution.binds (ps := ["self", "given"]) fun _ _ _ _ _ _ us hl => match us, hl with | [_, _], _ => rfl⟩⟩
  have m1 : PySem.W.exmOne K (.ref C_InvalidDistribution) (.ref C_InvalidDistribution) = some true := PySem.W.exm_ref sb_InvalidDistribution hd_InvalidDistribution ty_InvalidDistribution sc_InvalidDistribution_InvalidDistribution
  have F_is_integer := fun_mk (st := s_is_integer) l_is_integer c0_is_integer k_is_integer
  have c_is_integer : Cal P w K mg base "is_integer" s_is_integer ["value"] 1 asp_is_int := cal_of F_is_integer (PySem.W.mg_of KX G a_is_integer) sc_is_integer bd_is_integer (wk_is_integer m_bool m_isinstance m_int) p_is_integer
  have F_is_tuple_of := fun_mk (st := s_is_tuple_of) l_is_tuple_of c0_is_tuple_of k_is_tuple_of
  have c_is_tuple_of : Cal P w K mg base "is_tuple_of" s_is_tuple_of ["value", "many"] 1 asp_tup_of := cal_of F_is_tuple_of (PySem.W.mg_of KX G a_is_tuple_of) sc_is_tuple_of bd_is_tuple_of (wk_is_tuple_of m_len m_tuple m_isinstance) p_is_tuple_of
  have F_is_fraction := fun_mk (st := s_is_fraction) l_is_fraction c0_is_fraction k_is_fraction
  have c_is_fraction : Cal P w K mg base "is_fraction" s_is_fraction ["value"] 2 asp_is_fr := cal_of F_is_fraction (PySem.W.mg_of KX G a_is_fraction) sc_is_fraction bd_is_fraction (wk_is_fraction c_is_integer m_all c_is_tuple_of m_gcd) p_is_fraction
  have F_lowest := fun_mk (st := s_lowest) l_lowest c0_lowest k_lowest
  have c_lowest : Cal P w K mg base "lowest" s_lowest ["numerator", "denominator"] 1 asp_lowest := cal_of F_lowest (PySem.W.mg_of KX G a_lowest) sc_lowest bd_lowest (wk_lowest m_gcd) p_lowest
  have F_add := fun_mk (st := s_add) l_add c0_add k_add
  have c_add : Cal P w K mg base "add" s_add ["one", "other"] 2 asp_add := cal_of F_add (PySem.W.mg_of KX G a_add) sc_add bd_add (wk_add c_lowest) p_add
  have F_subtract := fun_mk (st := s_subtract) l_subtract c0_subtract k_subtract
  have c_subtract : Cal P w K mg base "subtract" s_subtract ["one", "other"] 2 asp_sub := cal_of F_subtract (PySem.W.mg_of KX G a_subtract) sc_subtract bd_subtract (wk_subtract c_lowest) p_subtract
  have F_multiply := fun_mk (st := s_multiply) l_multiply c0_multiply k_multiply
  have c_multiply : Cal P w K mg base "multiply" s_multiply ["one", "other"] 2 asp_mul := cal_of F_multiply (PySem.W.mg_of KX G a_multiply) sc_multiply bd_multiply (wk_multiply c_lowest) p_multiply
  have F_divide := fun_mk (st := s_divide) l_divide c0_divide k_divide
  have c_divide : Cal P w K mg base "divide" s_divide ["one", "other"] 3 (asp_divide C_DividedByZero) := cal_of F_divide (PySem.W.mg_of KX G a_divide) sc_divide bd_divide (wk_divide e_DividedByZero c_lowest) p_divide
  have F_compare := fun_mk (st := s_compare) l_compare c0_compare k_compare
  have c_compare : Cal P w K mg base "compare" s_compare ["one", "other"] 1 asp_compare := cal_of F_compare (PySem.W.mg_of KX G a_compare) sc_compare bd_compare (wk_compare m_int) p_compare
  have F_is_less := fun_mk (st := s_is_less) l_is_less c0_is_less k_is_less
  have c_is_less : Cal P w K mg base "is_less" s_is_less ["one", "other"] 2 asp_is_less := cal_of F_is_less (PySem.W.mg_of KX G a_is_less) sc_is_less bd_is_less (wk_is_less c_compare) p_is_less
  have F_total := fun_mk (st := s_total) l_total c0_total k_total
  have c_total : Cal P w K mg base "total" s_total ["items"] 3 asp_tot := cal_of F_total (PySem.W.mg_of KX G a_total) sc_total bd_total (wk_total k_ZERO c_add) p_total'
  have F_greatest := fun_mk (st := s_greatest) l_greatest c0_greatest k_greatest
  have c_greatest : Cal P w K mg base "greatest" s_greatest ["items"] 3 asp_greatest := cal_of F_greatest (PySem.W.mg_of KX G a_greatest) sc_greatest bd_greatest (wk_greatest c_is_less) p_greatest
  have F_is_probability := fun_mk (st := s_is_probability) l_is_probability c0_is_probability k_is_probability
  have c_is_probability : Cal P w K mg base "is_probability" s_is_probability ["value"] 3 asp_is_prob := cal_of F_is_probability (PySem.W.mg_of KX G a_is_probability) sc_is_probability bd_is_probability (wk_is_probability c_is_fraction) p_is_probability
  have F_is_distribution := fun_mk (st := s_is_distribution) l_is_distribution c0_is_distribution k_is_distribution
  have c_is_distribution : Cal P w K mg base "is_distribution" s_is_distribution ["size", "value"] 4 asp_isd := cal_of F_is_distribution (PySem.W.mg_of KX G a_is_distribution) sc_is_distribution bd_is_distribution (wk_is_distribution c_total k_ONE c_is_probability m_all c_is_tuple_of) p_is_distribution
  have F_check_distributions := fun_mk (st := s_check_distributions) l_check_distributions c0_check_distributions k_check_distributions
  have c_check_distributions : Cal P w K mg base "check_distributions" s_check_distributions ["one", "other"] 5 (asp_check C_InvalidDistribution) := cal_of F_check_distributions (PySem.W.mg_of KX G a_check_distributions) sc_check_distributions bd_check_distributions (wk_check_distributions m_tuple m_isinstance m_len c_is_distribution k_MOST_STATES e_InvalidDistribution) p_check_distributions
  have F_gap := fun_mk (st := s_gap) l_gap c0_gap k_gap
  have c_gap : Cal P w K mg base "gap" s_gap ["one", "other"] 3 asp_gap := cal_of F_gap (PySem.W.mg_of KX G a_gap) sc_gap bd_gap (wk_gap c_subtract m_abs) p_gap
  have F_variation_of := fun_mk (st := s_variation_of) l_variation_of c0_variation_of k_variation_of
  have c_variation_of : Cal P w K mg base "variation_of" s_variation_of ["one", "other"] 4 asp_vof := cal_of F_variation_of (PySem.W.mg_of KX G a_variation_of) sc_variation_of bd_variation_of (wk_variation_of c_multiply c_total m_zip c_gap k_HALF) p_variation_of
  have F_variation := fun_mk (st := s_variation) l_variation c0_variation k_variation
  have c_variation : Cal P w K mg base "variation" s_variation ["one", "other"] 6 (asp_variation C_InvalidDistribution) := cal_of F_variation (PySem.W.mg_of KX G a_variation) sc_variation bd_variation (wk_variation c_check_distributions c_variation_of) p_variation
  have F_best_event := fun_mk (st := s_best_event) l_best_event c0_best_event k_best_event
  have c_best_event : Cal P w K mg base "best_event" s_best_event ["one", "other"] 6 (asp_event C_InvalidDistribution) := cal_of F_best_event (PySem.W.mg_of KX G a_best_event) sc_best_event bd_best_event (wk_best_event c_check_distributions m_enumerate c_is_less m_tuple) p_best_event
  have F_separation := fun_mk (st := s_separation) l_separation c0_separation k_separation
  have c_separation : Cal P w K mg base "separation" s_separation ["one", "other"] 6 (asp_separation C_InvalidDistribution) := cal_of F_separation (PySem.W.mg_of KX G a_separation) sc_separation bd_separation (wk_separation c_check_distributions m_zip k_ZERO c_greatest c_subtract c_divide k_ONE) p_separation
  have F_law_cell := fun_mk (st := s_law_cell) l_law_cell c0_law_cell k_law_cell
  have c_law_cell : Cal P w K mg base "_law_cell" s_law_cell ["script", "k"] 1 asp_cell := cal_of F_law_cell (PySem.W.mg_of KX G a_law_cell) sc_law_cell bd_law_cell (wk_law_cell m_len m_sum m_int) p_law_cell
  have F_law_box := fun_mk (st := s_law_box) l_law_box c0_law_box k_law_box
  have c_law_box : Cal P w K mg base "_law_box" s_law_box ["great"] 1 asp_box := cal_of F_law_box (PySem.W.mg_of KX G a_law_box) sc_law_box bd_law_box (wk_law_box m_abs m_int) p_law_box
  have F_law_take := fun_mk (st := s_law_take) l_law_take c0_law_take k_law_take
  have c_law_take : Cal P w K mg base "_law_take" s_law_take ["box", "many"] 1 asp_take := cal_of F_law_take (PySem.W.mg_of KX G a_law_take) sc_law_take bd_law_take (wk_law_take m_int) p_law_take
  have F_law_same := fun_mk (st := s_law_same) l_law_same c0_law_same k_law_same
  have r_law_same : ∀ k, Cal P w K mg base "_law_same" s_law_same ["told", "due"] k (asp_same k) := fun k => by
   induction k with
   | zero => exact cal_none F_law_same (PySem.W.mg_of KX G a_law_same) bd_law_same (fun ds st QA EA z => same_none z)
   | succ k ih =>
    have c_law_same := ih
    exact cal_of F_law_same (PySem.W.mg_of KX G a_law_same) sc_law_same bd_law_same (wk_law_same m_bool m_isinstance m_int m_str m_range m_len m_tuple m_list c_law_same) (p_same k)
  have c_law_same := r_law_same 5
  have F_law_gcd := fun_mk (st := s_law_gcd) l_law_gcd c0_law_gcd k_law_gcd
  have c_law_gcd : Cal P w K mg base "_law_gcd" s_law_gcd ["a", "b"] 1 asp_gcd := cal_of F_law_gcd (PySem.W.mg_of KX G a_law_gcd) sc_law_gcd bd_law_gcd (wk_law_gcd m_abs) p_law_gcd
  have F_law_low := fun_mk (st := s_law_low) l_law_low c0_law_low k_law_low
  have c_law_low : Cal P w K mg base "_law_low" s_law_low ["top", "bottom"] 2 asp_low := cal_of F_law_low (PySem.W.mg_of KX G a_law_low) sc_law_low bd_law_low (wk_law_low c_law_gcd) p_law_low
  have F_law_add := fun_mk (st := s_law_add) l_law_add c0_law_add k_law_add
  have c_law_add : Cal P w K mg base "_law_add" s_law_add ["one", "other"] 3 asp_add := cal_of F_law_add (PySem.W.mg_of KX G a_law_add) sc_law_add bd_law_add (wk_law_add c_law_low) p_law_add
  have F_law_less := fun_mk (st := s_law_less) l_law_less c0_law_less k_law_less
  have c_law_less : Cal P w K mg base "_law_less" s_law_less ["one", "other"] 3 asp_sub := cal_of F_law_less (PySem.W.mg_of KX G a_law_less) sc_law_less bd_law_less (wk_law_less c_law_low) p_law_less
  have F_law_mul := fun_mk (st := s_law_mul) l_law_mul c0_law_mul k_law_mul
  have c_law_mul : Cal P w K mg base "_law_mul" s_law_mul ["one", "other"] 3 asp_mul := cal_of F_law_mul (PySem.W.mg_of KX G a_law_mul) sc_law_mul bd_law_mul (wk_law_mul c_law_low) p_law_mul
  have F_law_div := fun_mk (st := s_law_div) l_law_div c0_law_div k_law_div
  have c_law_div : Cal P w K mg base "_law_div" s_law_div ["one", "other"] 3 asp_div := cal_of F_law_div (PySem.W.mg_of KX G a_law_div) sc_law_div bd_law_div (wk_law_div c_law_low) p_law_div
  have F_law_sum := fun_mk (st := s_law_sum) l_law_sum c0_law_sum k_law_sum
  have c_law_sum : Cal P w K mg base "_law_sum" s_law_sum ["items"] 4 asp_total := cal_of F_law_sum (PySem.W.mg_of KX G a_law_sum) sc_law_sum bd_law_sum (wk_law_sum c_law_add) p_law_sum
  have F_law_below := fun_mk (st := s_law_below) l_law_below c0_law_below k_law_below
  have c_law_below : Cal P w K mg base "_law_below" s_law_below ["one", "other"] 1 asp_below := cal_of F_law_below (PySem.W.mg_of KX G a_law_below) sc_law_below bd_law_below (wk_law_below ) p_law_below
  have F_law_shares := fun_mk (st := s_law_shares) l_law_shares c0_law_shares k_law_shares
  have c_law_shares : Cal P w K mg base "_law_shares" s_law_shares ["weights"] 3 asp_shares := cal_of F_law_shares (PySem.W.mg_of KX G a_law_shares) sc_law_shares bd_law_shares (wk_law_shares m_sum c_law_low m_tuple) p_law_shares
  have F_law_weights := fun_mk (st := s_law_weights) l_law_weights c0_law_weights k_law_weights
  have c_law_weights : Cal P w K mg base "_law_weights" s_law_weights ["box", "many", "odds"] 2 asp_weights := cal_of F_law_weights (PySem.W.mg_of KX G a_law_weights) sc_law_weights bd_law_weights (wk_law_weights m_range c_law_take m_sum) p_law_weights
  have F_law_vary := fun_mk (st := s_law_vary) l_law_vary c0_law_vary k_law_vary
  have c_law_vary : Cal P w K mg base "_law_vary" s_law_vary ["one", "other"] 4 asp_lvary := cal_of F_law_vary (PySem.W.mg_of KX G a_law_vary) sc_law_vary bd_law_vary (wk_law_vary m_zip c_law_less c_law_add m_abs c_law_mul) p_law_vary
  have F_law_pair := fun_mk (st := s_law_pair) l_law_pair c0_law_pair k_law_pair
  have c_law_pair : Cal P w K mg base "_law_pair" s_law_pair ["box", "size"] 4 asp_lpair := cal_of F_law_pair (PySem.W.mg_of KX G a_law_pair) sc_law_pair bd_law_pair (wk_law_pair c_law_shares c_law_weights c_law_take m_range m_int) p_law_pair
  have F_law_event := fun_mk (st := s_law_event) l_law_event c0_law_event k_law_event
  have c_law_event : Cal P w K mg base "_law_event" s_law_event ["one", "other", "members"] 5 asp_lev := cal_of F_law_event (PySem.W.mg_of KX G a_law_event) sc_law_event bd_law_event (wk_law_event c_law_sum c_law_less) p_law_event
  have F_law_greatest := fun_mk (st := s_law_greatest) l_law_greatest c0_law_greatest k_law_greatest
  have c_law_greatest : Cal P w K mg base "_law_greatest" s_law_greatest ["one", "other"] 6 asp_most := cal_of F_law_greatest (PySem.W.mg_of KX G a_law_greatest) sc_law_greatest bd_law_greatest (wk_law_greatest m_range m_len c_law_event c_law_below) p_law_greatest
  have F_law_apart := fun_mk (st := s_law_apart) l_law_apart c0_law_apart k_law_apart
  have c_law_apart : Cal P w K mg base "_law_apart" s_law_apart ["one", "other"] 4 asp_apart := cal_of F_law_apart (PySem.W.mg_of KX G a_law_apart) sc_law_apart bd_law_apart (wk_law_apart m_zip c_law_less c_law_div c_law_below) p_law_apart
  have F_law_is_set := fun_mk (st := s_law_is_set) l_law_is_set c0_law_is_set k_law_is_set
  have c_law_is_set : Cal P w K mg base "_law_is_set" s_law_is_set ["size", "value"] 1 asp_set := cal_of F_law_is_set (PySem.W.mg_of KX G a_law_is_set) sc_law_is_set bd_law_is_set (wk_law_is_set m_bool m_isinstance m_int m_tuple m_range m_len) p_law_is_set
  have F_law_asked := fun_mk (st := s_law_asked) l_law_asked c0_law_asked k_law_asked
  have c_law_asked : Cal P w K mg base "_law_asked" s_law_asked ["turn", "one", "other", "named"] 7 (asp_asked C_InvalidDistribution) := cal_of F_law_asked (PySem.W.mg_of KX G a_law_asked) sc_law_asked bd_law_asked (wk_law_asked c_variation c_best_event c_separation e_InvalidDistribution) (p_law_asked m1)
  have F_law_near := fun_mk (st := s_law_near) l_law_near c0_law_near k_law_near
  have c_law_near : Cal P w K mg base "_law_near" s_law_near ["box", "one"] 4 asp_lnear := cal_of F_law_near (PySem.W.mg_of KX G a_law_near) sc_law_near bd_law_near (wk_law_near m_len c_law_take m_list m_int c_law_add c_law_less m_tuple) p_law_near
  have F_law_refusals_right := fun_mk (st := s_law_refusals_right) l_law_refusals_right c0_law_refusals_right k_law_refusals_right
  have c_law_refusals_right : Cal P w K mg base "_law_refusals_right" s_law_refusals_right ["box", "one", "other"] 8 asp_refusals := cal_of F_law_refusals_right (PySem.W.mg_of KX G a_law_refusals_right) sc_law_refusals_right bd_law_refusals_right (wk_law_refusals_right m_range c_law_near m_len m_tuple m_isinstance c_law_same c_law_asked) p_law_refusals_right
  have F_law_right := fun_mk (st := s_law_right) l_law_right c0_law_right k_law_right
  have c_law_right : Cal P w K mg base "_law_right" s_law_right ["box"] 9 asp_lright := cal_of F_law_right (PySem.W.mg_of KX G a_law_right) sc_law_right bd_law_right (wk_law_right c_law_take c_law_pair c_law_vary c_law_greatest m_range c_law_same c_law_apart c_law_asked c_law_event c_law_is_set c_law_refusals_right) p_law_right
  have F_law := fun_mk (st := s_law) l_law c0_law k_law
  exact fnOk F_law sc_law (fun cdv A outer s H E hr => wk_law m_range c_law_box c_law_cell c_law_right _ cdv A outer s H E hr (takes_of rfl rfl rfl rfl) (passes_of rfl)) p_law
end K34
open PySem PySem.W PyProof.Rows
set_option maxHeartbeats 0 in
theorem PySem.Challenge.cw_markovbench_k34_distances_of_distributio_holds : PySem.Challenge.rw_markovbench_k34_distances_of_distributio.Holds := by
  w_on; o_law; x_head; (case hw => w_witness2)
  k_fill
  refine L2.walk_of (l := PySem.Challenge.rw_markovbench_k34_distances_of_distributio) (n := 63) (k := 10) (x := "script") (CX := fun w => L2.CX (PySem.Challenge.rw_markovbench_k34_distances_of_distributio).prog w) (sp := fun w => Ab.spOf _ 1 K34.asp_law) rfl (by decide) rfl ⟨rfl, by decide, by decide⟩ (fun w h Y => PySem.W.kIn_of Y) ?F (fun _ _ a ns hl _ hS => Ab.law_start hS (K34.law_asks ns hl)) (fun _ _ _ _ _ z => Ab.law_out z)
  case F =>
    intro w mg fa h KX G hmg
    refine' K34.all_facts KX G hmg ?zm_bool ?zm_isinstance ?zm_int ?zm_len ?zm_tuple ?zm_all ?zm_gcd ?zm_abs ?zm_zip ?zm_enumerate ?zm_sum ?zm_str ?zm_range ?zm_list ?g_ZERO ?lt_ZERO ?g_ONE ?lt_ONE ?g_HALF ?lt_HALF ?g_MOST_STATES ?g_DividedByZero ?kp_DividedByZero ?sb_DividedByZero ?ty_DividedByZero ?hd_DividedByZero ?xn_DividedByZero ?g_InvalidDistribution ?kp_InvalidDistribution ?sb_InvalidDistribution ?ty_InvalidDistribution ?hd_InvalidDistribution ?xl_InvalidDistribution ?rv_InvalidDistribution ?sa_InvalidDistribution ?ga_InvalidDistribution ?gg_InvalidDistribution ?no_InvalidDistribution_given ?in_InvalidDistribution ?ti_InvalidDistribution ?li_InvalidDistribution ?ci_InvalidDistribution ?ki_InvalidDistribution ?sc_InvalidDistribution_InvalidDistribution ?a_is_integer ?l_is_integer ?c0_is_integer ?k_is_integer ?a_is_tuple_of ?l_is_tuple_of ?c0_is_tuple_of ?k_is_tuple_of ?a_is_fraction ?l_is_fraction ?c0_is_fraction ?k_is_fraction ?a_lowest ?l_lowest ?c0_lowest ?k_lowest ?a_add ?l_add ?c0_add ?k_add ?a_subtract ?l_subtract ?c0_subtract ?k_subtract ?a_multiply ?l_multiply ?c0_multiply ?k_multiply ?a_divide ?l_divide ?c0_divide ?k_divide ?a_compare ?l_compare ?c0_compare ?k_compare ?a_is_less ?l_is_less ?c0_is_less ?k_is_less ?a_total ?l_total ?c0_total ?k_total ?a_greatest ?l_greatest ?c0_greatest ?k_greatest ?a_is_probability ?l_is_probability ?c0_is_probability ?k_is_probability ?a_is_distribution ?l_is_distribution ?c0_is_distribution ?k_is_distribution ?a_check_distributions ?l_check_distributions ?c0_check_distributions ?k_check_distributions ?a_gap ?l_gap ?c0_gap ?k_gap ?a_variation_of ?l_variation_of ?c0_variation_of ?k_variation_of ?a_variation ?l_variation ?c0_variation ?k_variation ?a_best_event ?l_best_event ?c0_best_event ?k_best_event ?a_separation ?l_separation ?c0_separation ?k_separation ?a_law_cell ?l_law_cell ?c0_law_cell ?k_law_cell ?a_law_box ?l_law_box ?c0_law_box ?k_law_box ?a_law_take ?l_law_take ?c0_law_take ?k_law_take ?a_law_same ?l_law_same ?c0_law_same ?k_law_same ?a_law_gcd ?l_law_gcd ?c0_law_gcd ?k_law_gcd ?a_law_low ?l_law_low ?c0_law_low ?k_law_low ?a_law_add ?l_law_add ?c0_law_add ?k_law_add ?a_law_less ?l_law_less ?c0_law_less ?k_law_less ?a_law_mul ?l_law_mul ?c0_law_mul ?k_law_mul ?a_law_div ?l_law_div ?c0_law_div ?k_law_div ?a_law_sum ?l_law_sum ?c0_law_sum ?k_law_sum ?a_law_below ?l_law_below ?c0_law_below ?k_law_below ?a_law_shares ?l_law_shares ?c0_law_shares ?k_law_shares ?a_law_weights ?l_law_weights ?c0_law_weights ?k_law_weights ?a_law_vary ?l_law_vary ?c0_law_vary ?k_law_vary ?a_law_pair ?l_law_pair ?c0_law_pair ?k_law_pair ?a_law_event ?l_law_event ?c0_law_event ?k_law_event ?a_law_greatest ?l_law_greatest ?c0_law_greatest ?k_law_greatest ?a_law_apart ?l_law_apart ?c0_law_apart ?k_law_apart ?a_law_is_set ?l_law_is_set ?c0_law_is_set ?k_law_is_set ?a_law_asked ?l_law_asked ?c0_law_asked ?k_law_asked ?a_law_near ?l_law_near ?c0_law_near ?k_law_near ?a_law_refusals_right ?l_law_refusals_right ?c0_law_refusals_right ?k_law_refusals_right ?a_law_right ?l_law_right ?c0_law_right ?k_law_right ?a_law ?l_law ?c0_law ?k_law
    (case zm_bool => k_is)
    (case zm_isinstance => k_is)
    (case zm_int => k_is)
    (case zm_len => k_is)
    (case zm_tuple => k_is)
    (case zm_all => k_is)
    (case zm_gcd => k_is)
    (case zm_abs => k_is)
    (case zm_zip => k_is)
    (case zm_enumerate => k_is)
    (case zm_sum => k_is)
    (case zm_str => k_is)
    (case zm_range => k_is)
    (case zm_list => k_is)
    (case g_ZERO => k_is)
    (case lt_ZERO => k_is)
    (case g_ONE => k_is)
    (case lt_ONE => k_is)
    (case g_HALF => k_is)
    (case lt_HALF => k_is)
    (case g_MOST_STATES => k_is)
    (case g_DividedByZero => k_is)
    (case kp_DividedByZero => k_is)
    (case sb_DividedByZero => k_is)
    (case ty_DividedByZero => k_is)
    (case hd_DividedByZero => k_is)
    (case xn_DividedByZero => first | k_exc | k_is)
    (case g_InvalidDistribution => k_is)
    (case kp_InvalidDistribution => k_is)
    (case sb_InvalidDistribution => k_is)
    (case ty_InvalidDistribution => k_is)
    (case hd_InvalidDistribution => k_is)
    (case xl_InvalidDistribution => k_is)
    (case rv_InvalidDistribution => first | rfl | decide +kernel)
    (case sa_InvalidDistribution => k_is)
    (case ga_InvalidDistribution => k_is)
    (case gg_InvalidDistribution => k_is)
    (case no_InvalidDistribution_given => k_is)
    (case in_InvalidDistribution => k_is)
    (case ti_InvalidDistribution => k_is)
    (case li_InvalidDistribution => k_is)
    (case ci_InvalidDistribution => k_is)
    (case ki_InvalidDistribution => k_is)
    (case sc_InvalidDistribution_InvalidDistribution => first | rfl | k_is)
    (case a_is_integer => k_is)
    (case l_is_integer => k_is)
    (case c0_is_integer => k_is)
    (case k_is_integer => k_is)
    (case a_is_tuple_of => k_is)
    (case l_is_tuple_of => k_is)
    (case c0_is_tuple_of => k_is)
    (case k_is_tuple_of => k_is)
    (case a_is_fraction => k_is)
    (case l_is_fraction => k_is)
    (case c0_is_fraction => k_is)
    (case k_is_fraction => k_is)
    (case a_lowest => k_is)
    (case l_lowest => k_is)
    (case c0_lowest => k_is)
    (case k_lowest => k_is)
    (case a_add => k_is)
    (case l_add => k_is)
    (case c0_add => k_is)
    (case k_add => k_is)
    (case a_subtract => k_is)
    (case l_subtract => k_is)
    (case c0_subtract => k_is)
    (case k_subtract => k_is)
    (case a_multiply => k_is)
    (case l_multiply => k_is)
    (case c0_multiply => k_is)
    (case k_multiply => k_is)
    (case a_divide => k_is)
    (case l_divide => k_is)
    (case c0_divide => k_is)
    (case k_divide => k_is)
    (case a_compare => k_is)
    (case l_compare => k_is)
    (case c0_compare => k_is)
    (case k_compare => k_is)
    (case a_is_less => k_is)
    (case l_is_less => k_is)
    (case c0_is_less => k_is)
    (case k_is_less => k_is)
    (case a_total => k_is)
    (case l_total => k_is)
    (case c0_total => k_is)
    (case k_total => k_is)
    (case a_greatest => k_is)
    (case l_greatest => k_is)
    (case c0_greatest => k_is)
    (case k_greatest => k_is)
    (case a_is_probability => k_is)
    (case l_is_probability => k_is)
    (case c0_is_probability => k_is)
    (case k_is_probability => k_is)
    (case a_is_distribution => k_is)
    (case l_is_distribution => k_is)
    (case c0_is_distribution => k_is)
    (case k_is_distribution => k_is)
    (case a_check_distributions => k_is)
    (case l_check_distributions => k_is)
    (case c0_check_distributions => k_is)
    (case k_check_distributions => k_is)
    (case a_gap => k_is)
    (case l_gap => k_is)
    (case c0_gap => k_is)
    (case k_gap => k_is)
    (case a_variation_of => k_is)
    (case l_variation_of => k_is)
    (case c0_variation_of => k_is)
    (case k_variation_of => k_is)
    (case a_variation => k_is)
    (case l_variation => k_is)
    (case c0_variation => k_is)
    (case k_variation => k_is)
    (case a_best_event => k_is)
    (case l_best_event => k_is)
    (case c0_best_event => k_is)
    (case k_best_event => k_is)
    (case a_separation => k_is)
    (case l_separation => k_is)
    (case c0_separation => k_is)
    (case k_separation => k_is)
    (case a_law_cell => k_is)
    (case l_law_cell => k_is)
    (case c0_law_cell => k_is)
    (case k_law_cell => k_is)
    (case a_law_box => k_is)
    (case l_law_box => k_is)
    (case c0_law_box => k_is)
    (case k_law_box => k_is)
    (case a_law_take => k_is)
    (case l_law_take => k_is)
    (case c0_law_take => k_is)
    (case k_law_take => k_is)
    (case a_law_same => k_is)
    (case l_law_same => k_is)
    (case c0_law_same => k_is)
    (case k_law_same => k_is)
    (case a_law_gcd => k_is)
    (case l_law_gcd => k_is)
    (case c0_law_gcd => k_is)
    (case k_law_gcd => k_is)
    (case a_law_low => k_is)
    (case l_law_low => k_is)
    (case c0_law_low => k_is)
    (case k_law_low => k_is)
    (case a_law_add => k_is)
    (case l_law_add => k_is)
    (case c0_law_add => k_is)
    (case k_law_add => k_is)
    (case a_law_less => k_is)
    (case l_law_less => k_is)
    (case c0_law_less => k_is)
    (case k_law_less => k_is)
    (case a_law_mul => k_is)
    (case l_law_mul => k_is)
    (case c0_law_mul => k_is)
    (case k_law_mul => k_is)
    (case a_law_div => k_is)
    (case l_law_div => k_is)
    (case c0_law_div => k_is)
    (case k_law_div => k_is)
    (case a_law_sum => k_is)
    (case l_law_sum => k_is)
    (case c0_law_sum => k_is)
    (case k_law_sum => k_is)
    (case a_law_below => k_is)
    (case l_law_below => k_is)
    (case c0_law_below => k_is)
    (case k_law_below => k_is)
    (case a_law_shares => k_is)
    (case l_law_shares => k_is)
    (case c0_law_shares => k_is)
    (case k_law_shares => k_is)
    (case a_law_weights => k_is)
    (case l_law_weights => k_is)
    (case c0_law_weights => k_is)
    (case k_law_weights => k_is)
    (case a_law_vary => k_is)
    (case l_law_vary => k_is)
    (case c0_law_vary => k_is)
    (case k_law_vary => k_is)
    (case a_law_pair => k_is)
    (case l_law_pair => k_is)
    (case c0_law_pair => k_is)
    (case k_law_pair => k_is)
    (case a_law_event => k_is)
    (case l_law_event => k_is)
    (case c0_law_event => k_is)
    (case k_law_event => k_is)
    (case a_law_greatest => k_is)
    (case l_law_greatest => k_is)
    (case c0_law_greatest => k_is)
    (case k_law_greatest => k_is)
    (case a_law_apart => k_is)
    (case l_law_apart => k_is)
    (case c0_law_apart => k_is)
    (case k_law_apart => k_is)
    (case a_law_is_set => k_is)
    (case l_law_is_set => k_is)
    (case c0_law_is_set => k_is)
    (case k_law_is_set => k_is)
    (case a_law_asked => k_is)
    (case l_law_asked => k_is)
    (case c0_law_asked => k_is)
    (case k_law_asked => k_is)
    (case a_law_near => k_is)
    (case l_law_near => k_is)
    (case c0_law_near => k_is)
    (case k_law_near => k_is)
    (case a_law_refusals_right => k_is)
    (case l_law_refusals_right => k_is)
    (case c0_law_refusals_right => k_is)
    (case k_law_refusals_right => k_is)
    (case a_law_right => k_is)
    (case l_law_right => k_is)
    (case c0_law_right => k_is)
    (case k_law_right => k_is)
    (case a_law => k_is)
    (case l_law => k_is)
    (case c0_law => k_is)
    (case k_law => k_is)
